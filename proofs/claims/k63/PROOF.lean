import PyProof.Rows.All
import Wide.All
import OpenK.AllK
import Wide.FinOn
import KE.KStateDown
import Lean
import HandS.ForMost
import HandS.Exc
import HandS.Flow
import HandS.DictComp
import HandS.Style
import HandS.Wide
import HandS.WideBits
import HandS.IsInst
import HandS.Codes
import HandS.Walk
import HandS.Words
import HandS.WordsExc
import HandS.Defaults
import HandS.Head0
import HandS.Head1
import HandS.Head2
import HandS.HeadEnd
import HandS.HeadHook1
import HandS.HeadHook2
import HandS.SortInts
import PyProof.Rows.SortShellAny
import PyProof.InstNe
import KE.DataMinMax
import KE.SortData
import KE.IntBitsLaws
import KE.BitLaws
import HandS.Deep
import HandS.SetKeys
import PyProof.Rows.StrMul
import HandS.TupLe
import HandS.Property
import HandS.Conv
import HandS.NoneIn
import HandS.SetFor
import HandS.Strs
import HandS.Sort
import HandS.StrMore
import HandS.ExcInit
import HandS.ExcSuper
import HandS.Nested
import KE.KExcSuper
import HandS.ExcField
import HandS.TryMany
import HandS.ExcIs
import HandS.TryOnly
import HandS.CallSlots
import KE.KDictDisplayH
import PyProof.StrLawsFirst
import KE.GoesZip
import KE.GoesMore
import HandS.Zip
import PyProof.CallType
import PyProof.ZipIter
import PyProof.TupleIter
import PyProof.Rows.CallKwBuiltin
import HandS.Star
import PySem.Challenge.RW_wholesound_k63_shapes_in_spans
set_option Elab.async false
set_option linter.all false
set_option maxRecDepth 100000
set_option maxHeartbeats 4000000
set_option exponentiation.threshold 100000
namespace Pre
open PySem PySem.Spec PyProof.Rows L2
/-! ### heaps -/
theorem same_upd {H : Hp} {p : Addr} {o : HO} (h : H p = none) : Same H (upd H p o) := fun b x e => by
  rw [upd_ne (ne_of_none e h)]
  exact e
/-- a fresh thing that is then changed is no change of what was -/
theorem same_over {H H' : Hp} {p : Addr} {o : HO} (n : H p = none) (s : Same H H') : Same H (upd H' p o) := fun b x e => by
  rw [upd_ne (ne_of_none e n)]
  exact s b x e
theorem Same.tup {K : PySem.W.Frag} {H H' : Hp} {a : Addr} {xs : List V} (e : Same H H') (h : SqT K H a xs) : SqT K H' a xs := by
  rcases h with (h | ⟨o, h⟩) | h
  · exact .inl (.inl (e _ _ h))
  · exact .inl (.inr ⟨o, e _ _ h⟩)
  · exact .inr h
mutual
theorem dp_same {K : PySem.W.Frag} {H H' : Hp} (s : Same H H') : ∀ (d : PyData) (v : V), Dp K H v d → Dp K H' v d
  | .none, _, h => by cases h; exact .non
  | .bool _, _, h => by cases h; exact .bl _
  | .int _, _, h => by cases h; exact .int _
  | .str _, _, h => by cases h; exact .str _
  | .list ds, _, h => by cases h with | lst a b => exact .lst (s.seq a) (dps_same s ds _ b)
  | .tuple ds, _, h => by cases h with | tup a b => exact .tup (Same.tup s a) (dps_same s ds _ b)
  | .dict _, _, h => nomatch h
theorem dps_same {K : PySem.W.Frag} {H H' : Hp} (s : Same H H') : ∀ (ds : List PyData) (vs : List V), DpAll K H vs ds → DpAll K H' vs ds
  | [], _, h => by cases h; exact .nil
  | d :: ds, _, h => by cases h with | cons a b => exact .cons (dp_same s d _ a) (dps_same s ds _ b)
end
theorem dp_ints {K : PySem.W.Frag} {H : Hp} : ∀ ns : List Int, DpAll K H (ns.map V.int) (ns.map PyData.int)
  | [] => .nil
  | n :: r => .cons (.int n) (dp_ints r)
theorem eqv_ints : ∀ ns ms : List Int, PyData.eqvAll (ns.map PyData.int) (ms.map PyData.int) = decide (ns = ms)
  | [], [] => rfl
  | [], _ :: _ => rfl
  | _ :: _, [] => rfl
  | n :: r, m :: q => by
    show (PyData.eqv (.int n) (.int m) && PyData.eqvAll (r.map PyData.int) (q.map PyData.int)) = decide (n :: r = m :: q)
    rw [eqv_ints r q]
    show ((n == m) && decide (r = q)) = decide (n :: r = m :: q)
    by_cases h : n = m
    · subst h; simp
    · simp [h]
theorem lay_ints : ∀ ns : List Int, PyData.canLayAll0 (ns.map PyData.int) = true
  | [] => rfl
  | n :: r => by
    show (PyData.canLay0 (.int n) && PyData.canLayAll0 (r.map PyData.int)) = true
    rw [lay_ints r]
    rfl
theorem depth_ints : ∀ ns : List Int, PyData.depthAll (ns.map PyData.int) = 0
  | [] => by simp [PyData.depthAll]
  | n :: r => by
    show PyData.depthAll (.int n :: r.map PyData.int) = 0
    rw [PyData.depthAll, depth_ints r]
    simp [PyData.depth]
theorem shaped_ints (ns : List Int) : SeqAt.shaped (.list (ns.map PyData.int)) = true := by
  unfold SeqAt.shaped
  rw [PyData.canLay0, lay_ints, PyData.depth, depth_ints]
  rfl
theorem shaped_tup (ns : List Int) : SeqAt.shaped (.tuple (ns.map PyData.int)) = true := by
  unfold SeqAt.shaped
  rw [PyData.canLay0, lay_ints, PyData.depth, depth_ints]
  rfl
/-! ### comparisons of lists and tuples of whole numbers that are told alike -/
theorem ne_tup {K : PySem.W.Frag} {H : Hp} {a b : Addr} {ns : List Int} {Q : V → Hp → Prop} (ha : SqT K H a (ns.map V.int)) (hb : SqT K H b (ns.map V.int)) (q : Q (.bl false) H) : rNeD K (.ref a) (.ref b) H Q := by
  refine ⟨.tuple (ns.map PyData.int), .tuple (ns.map PyData.int), .tup ha (dp_ints ns), .tup hb (dp_ints ns), shaped_tup ns, shaped_tup ns, ?_⟩
  rw [PyData.eqv, eqv_ints, decide_eq_true rfl]
  exact q
theorem eq_tup {K : PySem.W.Frag} {H : Hp} {a b : Addr} {ns : List Int} {Q : V → Hp → Prop} (ha : SqT K H a (ns.map V.int)) (hb : SqT K H b (ns.map V.int)) (q : Q (.bl true) H) : rEqD K (.ref a) (.ref b) H Q := by
  refine ⟨.tuple (ns.map PyData.int), .tuple (ns.map PyData.int), .tup ha (dp_ints ns), .tup hb (dp_ints ns), shaped_tup ns, shaped_tup ns, ?_⟩
  rw [PyData.eqv, eqv_ints, decide_eq_true rfl]
  exact q
/-- lists of whole numbers, compared -/
theorem eqD_lst {K : PySem.W.Frag} {H : Hp} {a b : Addr} {ns ms : List Int} {Q : V → Hp → Prop} (ha : SqL K H a (ns.map V.int)) (hb : SqL K H b (ms.map V.int)) (q : Q (.bl (decide (ns = ms))) H) : rEqD K (.ref a) (.ref b) H Q := by
  refine ⟨.list (ns.map PyData.int), .list (ms.map PyData.int), .lst ha (dp_ints ns), .lst hb (dp_ints ms), shaped_ints ns, shaped_ints ms, ?_⟩
  rw [PyData.eqv, eqv_ints]
  exact q
theorem neD_lst {K : PySem.W.Frag} {H : Hp} {a b : Addr} {ns ms : List Int} {Q : V → Hp → Prop} (ha : SqL K H a (ns.map V.int)) (hb : SqL K H b (ms.map V.int)) (q : Q (.bl (!decide (ns = ms))) H) : rNeD K (.ref a) (.ref b) H Q := by
  refine ⟨.list (ns.map PyData.int), .list (ms.map PyData.int), .lst ha (dp_ints ns), .lst hb (dp_ints ms), shaped_ints ns, shaped_ints ms, ?_⟩
  rw [PyData.eqv, eqv_ints]
  exact q
theorem ne_lst {K : PySem.W.Frag} {H : Hp} {a b : Addr} {ns : List Int} {Q : V → Hp → Prop} (ha : SqL K H a (ns.map V.int)) (hb : SqL K H b (ns.map V.int)) (q : Q (.bl false) H) : rNeD K (.ref a) (.ref b) H Q :=
  neD_lst ha hb (by rw [decide_eq_true rfl]; exact q)
theorem eq_lst {K : PySem.W.Frag} {H : Hp} {a b : Addr} {ns : List Int} {Q : V → Hp → Prop} (ha : SqL K H a (ns.map V.int)) (hb : SqL K H b (ns.map V.int)) (q : Q (.bl true) H) : rEqD K (.ref a) (.ref b) H Q :=
  eqD_lst ha hb (by rw [decide_eq_true rfl]; exact q)
/-! ### powers -/
def CPowW (i j : Int) : Prop := 0 ≤ j ∧ (Builtin.Int.intBits i : Int) * j ≤ 2 ^ 27
theorem op_powW {X : Cx} : OpR X (binaryOp .Pow) (rI CPowW fun i j => .int (i ^ j.toNat)) := opI fun _ _ _ _ _ _ _ hc q => pow_int hc.1 hc.2 q
/-! ### comprehensions whose parts leave what is tracked as it is: sel tells of each item what comes of it -/
theorem take_fm {α : Type} {l : List (Option α)} {i : Nat} {o : Option α} (h : l[i]? = some o) : (l.take (i + 1)).filterMap id = (l.take i).filterMap id ++ o.toList := by
  rw [List.take_add_one, h, List.filterMap_append]
  cases o <;> rfl
theorem fm_len {α : Type} (l : List (Option α)) (i : Nat) : ((l.take i).filterMap id).length ≤ l.length :=
  Nat.le_trans (List.length_filterMap_le _ _) (by rw [List.length_take]; omega)
theorem lc_selL {K : PySem.W.Frag} {a : Addr} {xs : List V} {j : Nat} {tt : TT} {te : TE} {vs : List Nat} {σ : L2.St} {H1 : Hp} {D : Addr} {Qd : Hp → Prop} (sel : List (Option V)) (nD : H1 D = none) (hS : SqL K H1 a xs) (hlen : sel.length = xs.length) (hz : xs.length < sizeLine)
    (hw : ∀ x, wipe ((wipe σ vs).set j (some x)) vs = wipe σ vs)
    (hs : ∀ (i : Nat) (x : V) (o : Option V) (H' : Hp), xs[i]? = some x → sel[i]? = some o → Same H1 H' → ∀ Qt : Option V → Hp → Prop, (∀ H'', Same H' H'' → Qt o H'') →
      tt ((wipe σ vs).set j (some x)) H' fun b H3 => if b = true then te ((wipe σ vs).set j (some x)) H3 fun y H4 => Qt (some y) H4 else Qt none H3)
    (hd : ∀ H', Same H1 H' → H' D = some (.lst (sel.filterMap id)) → Qd H') :
    ∃ W : Nat → Nat → Hp → Prop, (∃ m, W 0 m (upd H1 D (.lst []))) ∧ ∀ i m H, W i m H →
      ((Itl K a).stop i H ∧ Qd H) ∨ ((Itl K a).go i H ∧ ∃ Nx : Hp → Prop, (∀ H', Nx H' → ∃ m', m' < m ∧ W (i + 1) m' H') ∧ ∀ x H', (Itl K a).yld i H x H' → gName j x (wipe σ vs) H' fun σ2 H2 => wipe σ2 vs = wipe σ vs ∧ tt σ2 H2 fun b H3 =>
        if b = true then te σ2 H3 fun y H4 => ∃ acc, H4 D = some (.lst acc) ∧ acc.length < sizeLine ∧ Nx (upd H4 D (.lst (acc ++ [y]))) else Nx H3) := by
  refine lc_list (K := K) (a := a) (xs := xs) (fun i H => Same H1 H ∧ H D = some (.lst ((sel.take i).filterMap id))) ⟨same_upd nD, upd_same⟩ (fun i H _ p => p.1.seq hS) ?_ ?_
  · rintro i x H hx ⟨s, hD⟩
    refine ⟨hw x, ?_⟩
    have hi : i < sel.length := by rw [hlen]; exact (List.getElem?_eq_some_iff.mp hx).1
    have ho : sel[i]? = some sel[i] := List.getElem?_eq_getElem hi
    have hl : ((sel.take i).filterMap id).length < sizeLine := Nat.lt_of_le_of_lt (fm_len sel i) (by omega)
    refine hs i x sel[i] H hx ho s (fun o H4 => match o with
      | some y => ∃ acc, H4 D = some (.lst acc) ∧ acc.length < sizeLine ∧ (Same H1 (upd H4 D (.lst (acc ++ [y]))) ∧ (upd H4 D (.lst (acc ++ [y]))) D = some (.lst ((sel.take (i + 1)).filterMap id)))
      | none => Same H1 H4 ∧ H4 D = some (.lst ((sel.take (i + 1)).filterMap id))) fun H4 s4 => ?_
    generalize sel[i] = o at ho ⊢
    cases o with
    | some y =>
      refine ⟨_, s4 _ _ hD, hl, same_over nD (s.trans s4), ?_⟩
      rw [upd_same, take_fm ho]
      rfl
    | none =>
      refine ⟨s.trans s4, ?_⟩
      rw [take_fm ho, s4 _ _ hD]
      simp
  · rintro H ⟨s, hD⟩
    refine hd H s ?_
    rw [hD, ← hlen, List.take_length]
theorem lc_selR {lo : Int} {n : Nat} {j : Nat} {tt : TT} {te : TE} {vs : List Nat} {σ : L2.St} {H1 : Hp} {D : Addr} {Qd : Hp → Prop} (sel : List (Option V)) (nD : H1 D = none) (hlen : sel.length = n) (hz : n < sizeLine)
    (hw : ∀ x, wipe ((wipe σ vs).set j (some x)) vs = wipe σ vs)
    (hs : ∀ (i : Nat) (o : Option V) (H' : Hp), i < n → sel[i]? = some o → Same H1 H' → ∀ Qt : Option V → Hp → Prop, (∀ H'', Same H' H'' → Qt o H'') →
      tt ((wipe σ vs).set j (some (.int (lo + (i : Int))))) H' fun b H3 => if b = true then te ((wipe σ vs).set j (some (.int (lo + (i : Int))))) H3 fun y H4 => Qt (some y) H4 else Qt none H3)
    (hd : ∀ H', Same H1 H' → H' D = some (.lst (sel.filterMap id)) → Qd H') :
    ∃ W : Nat → Nat → Hp → Prop, (∃ m, W 0 m (upd H1 D (.lst []))) ∧ ∀ i m H, W i m H →
      ((Itr lo n).stop i H ∧ Qd H) ∨ ((Itr lo n).go i H ∧ ∃ Nx : Hp → Prop, (∀ H', Nx H' → ∃ m', m' < m ∧ W (i + 1) m' H') ∧ ∀ x H', (Itr lo n).yld i H x H' → gName j x (wipe σ vs) H' fun σ2 H2 => wipe σ2 vs = wipe σ vs ∧ tt σ2 H2 fun b H3 =>
        if b = true then te σ2 H3 fun y H4 => ∃ acc, H4 D = some (.lst acc) ∧ acc.length < sizeLine ∧ Nx (upd H4 D (.lst (acc ++ [y]))) else Nx H3) := by
  refine lc_range (lo := lo) (n := n) (fun i H => Same H1 H ∧ H D = some (.lst ((sel.take i).filterMap id))) ⟨same_upd nD, upd_same⟩ ?_ ?_
  · rintro i H hi' ⟨s, hD⟩
    refine ⟨hw _, ?_⟩
    have hi : i < sel.length := by rw [hlen]; exact hi'
    have ho : sel[i]? = some sel[i] := List.getElem?_eq_getElem hi
    have hl : ((sel.take i).filterMap id).length < sizeLine := Nat.lt_of_le_of_lt (fm_len sel i) (by omega)
    refine hs i sel[i] H hi' ho s (fun o H4 => match o with
      | some y => ∃ acc, H4 D = some (.lst acc) ∧ acc.length < sizeLine ∧ (Same H1 (upd H4 D (.lst (acc ++ [y]))) ∧ (upd H4 D (.lst (acc ++ [y]))) D = some (.lst ((sel.take (i + 1)).filterMap id)))
      | none => Same H1 H4 ∧ H4 D = some (.lst ((sel.take (i + 1)).filterMap id))) fun H4 s4 => ?_
    generalize sel[i] = o at ho ⊢
    cases o with
    | some y =>
      refine ⟨_, s4 _ _ hD, hl, same_over nD (s.trans s4), ?_⟩
      rw [upd_same, take_fm ho]
      rfl
    | none =>
      refine ⟨s.trans s4, ?_⟩
      rw [take_fm ho, s4 _ _ hD]
      simp
  · rintro H ⟨s, hD⟩
    refine hd H s ?_
    rw [hD, ← hlen, List.take_length]
theorem fm_some {α : Type} (ys : List α) : (ys.map some).filterMap id = ys := by
  rw [List.filterMap_map]
  show List.filterMap (fun y => some y) ys = ys
  exact List.filterMap_some
/-- no test: ys tells what comes of each item -/
theorem lc_mapL {K : PySem.W.Frag} {a : Addr} {xs : List V} {j : Nat} {te : TE} {vs : List Nat} {σ : L2.St} {H1 : Hp} {D : Addr} {Qd : Hp → Prop} (ys : List V) (nD : H1 D = none) (hS : SqL K H1 a xs) (hlen : ys.length = xs.length) (hz : xs.length < sizeLine)
    (hw : ∀ x, wipe ((wipe σ vs).set j (some x)) vs = wipe σ vs)
    (hs : ∀ (i : Nat) (x y : V) (H' : Hp), xs[i]? = some x → ys[i]? = some y → Same H1 H' → ∀ Qt : V → Hp → Prop, (∀ H'', Same H' H'' → Qt y H'') → te ((wipe σ vs).set j (some x)) H' Qt)
    (hd : ∀ H', Same H1 H' → H' D = some (.lst ys) → Qd H') :
    ∃ W : Nat → Nat → Hp → Prop, (∃ m, W 0 m (upd H1 D (.lst []))) ∧ ∀ i m H, W i m H →
      ((Itl K a).stop i H ∧ Qd H) ∨ ((Itl K a).go i H ∧ ∃ Nx : Hp → Prop, (∀ H', Nx H' → ∃ m', m' < m ∧ W (i + 1) m' H') ∧ ∀ x H', (Itl K a).yld i H x H' → gName j x (wipe σ vs) H' fun σ2 H2 => wipe σ2 vs = wipe σ vs ∧ tYes σ2 H2 fun b H3 =>
        if b = true then te σ2 H3 fun y H4 => ∃ acc, H4 D = some (.lst acc) ∧ acc.length < sizeLine ∧ Nx (upd H4 D (.lst (acc ++ [y]))) else Nx H3) := by
  refine lc_selL (K := K) (a := a) (xs := xs) (tt := tYes) (ys.map some) nD hS (by rw [List.length_map]; exact hlen) hz hw ?_ ?_
  · intro i x o H' hx ho s Qt qt
    rw [List.getElem?_map] at ho
    obtain ⟨y, hy, rfl⟩ := Option.map_eq_some_iff.mp ho
    show if true = true then te ((wipe σ vs).set j (some x)) H' (fun y H4 => Qt (some y) H4) else Qt none H'
    exact iteT (hs i x y H' hx hy s (fun y H4 => Qt (some y) H4) qt)
  · intro H' s hD
    rw [fm_some] at hD
    exact hd H' s hD
theorem lc_mapR {lo : Int} {n : Nat} {j : Nat} {te : TE} {vs : List Nat} {σ : L2.St} {H1 : Hp} {D : Addr} {Qd : Hp → Prop} (ys : List V) (nD : H1 D = none) (hlen : ys.length = n) (hz : n < sizeLine)
    (hw : ∀ x, wipe ((wipe σ vs).set j (some x)) vs = wipe σ vs)
    (hs : ∀ (i : Nat) (y : V) (H' : Hp), i < n → ys[i]? = some y → Same H1 H' → ∀ Qt : V → Hp → Prop, (∀ H'', Same H' H'' → Qt y H'') → te ((wipe σ vs).set j (some (.int (lo + (i : Int))))) H' Qt)
    (hd : ∀ H', Same H1 H' → H' D = some (.lst ys) → Qd H') :
    ∃ W : Nat → Nat → Hp → Prop, (∃ m, W 0 m (upd H1 D (.lst []))) ∧ ∀ i m H, W i m H →
      ((Itr lo n).stop i H ∧ Qd H) ∨ ((Itr lo n).go i H ∧ ∃ Nx : Hp → Prop, (∀ H', Nx H' → ∃ m', m' < m ∧ W (i + 1) m' H') ∧ ∀ x H', (Itr lo n).yld i H x H' → gName j x (wipe σ vs) H' fun σ2 H2 => wipe σ2 vs = wipe σ vs ∧ tYes σ2 H2 fun b H3 =>
        if b = true then te σ2 H3 fun y H4 => ∃ acc, H4 D = some (.lst acc) ∧ acc.length < sizeLine ∧ Nx (upd H4 D (.lst (acc ++ [y]))) else Nx H3) := by
  refine lc_selR (lo := lo) (n := n) (tt := tYes) (ys.map some) nD (by rw [List.length_map]; exact hlen) hz hw ?_ ?_
  · intro i o H' hi ho s Qt qt
    rw [List.getElem?_map] at ho
    obtain ⟨y, hy, rfl⟩ := Option.map_eq_some_iff.mp ho
    show if true = true then te ((wipe σ vs).set j (some (.int (lo + (i : Int))))) H' (fun y H4 => Qt (some y) H4) else Qt none H'
    exact iteT (hs i y H' hi hy s (fun y H4 => Qt (some y) H4) qt)
  · intro H' s hD
    rw [fm_some] at hD
    exact hd H' s hD
/-- an item of a list of whole numbers -/
theorem int_at {ns : List Int} {i : Nat} {x : V} (h : (ns.map V.int)[i]? = some x) : ∃ n, ns[i]? = some n ∧ x = .int n := by
  rw [List.getElem?_map] at h
  obtain ⟨n, hn, e⟩ := Option.map_eq_some_iff.mp h
  exact ⟨n, hn, e.symm⟩
/-! ### rules with the written part named (within a comprehension Lean doesn't find it) -/
section
variable {X : Cx}
theorem k_len (K : PySem.W.Frag) (h : X.K = K) : CallR X (.builtin "len") (fun xs H Q => ∃ p ys, xs = [.ref p] ∧ (SqL K H p ys ∨ SqT K H p ys) ∧ Q (.int ys.length) H) := by subst h; exact call_len_seq
theorem k_sum (K : PySem.W.Frag) (h : X.K = K) (hc : X.calm = true) : CallR X (.builtin "sum") (rSum K) := by subst h; exact cr_sum hc
theorem k_max (K : PySem.W.Frag) (h : X.K = K) (hc : X.calm = true) : CallR X (.builtin "max") (rMax K) := by subst h; exact cr_max hc
theorem k_min (K : PySem.W.Frag) (h : X.K = K) (hc : X.calm = true) : CallR X (.builtin "min") (rMin K) := by subst h; exact cr_min hc
theorem k_isi (K : PySem.W.Frag) (h : X.K = K) : CallR X (.builtin "isinstance") (rIsi K) := by subst h; exact call_isi
theorem k_listOf (K : PySem.W.Frag) (h : X.K = K) : CallR X (.type "list") (fun xs H Q => ∃ p ys, xs = [.ref p] ∧ (SqL K H p ys ∨ SqT K H p ys) ∧ ∀ l, H l = none → Q (.ref l) (upd H l (.lst ys))) := by subst h; exact call_list_of
theorem k_tupleOf (K : PySem.W.Frag) (h : X.K = K) : CallR X (.type "tuple") (fun xs H Q => ∃ p ys, xs = [.ref p] ∧ ((SqL K H p ys ∧ ∀ l, H l = none → Q (.ref l) (upd H l (.tup ys))) ∨ (SqT K H p ys ∧ Q (.ref p) H))) := by subst h; exact call_tuple_of
theorem k_ixL (K : PySem.W.Frag) (h : X.K = K) : IxR X (rIxL K) := by subst h; exact ix_list
theorem k_ixT (K : PySem.W.Frag) (h : X.K = K) : IxR X (rIxT K) := by subst h; exact ix_tup
theorem k_slL (K : PySem.W.Frag) (h : X.K = K) : SlR X (rSlL K) := by subst h; exact sl_list
theorem k_slT (K : PySem.W.Frag) (h : X.K = K) : SlR X (rSlT K) := by subst h; exact sl_tup
theorem k_eqD (K : PySem.W.Frag) (h : X.K = K) (hu : X.A.units + 64 < cLine) : OpR X (compareOp .Eq) (rEqD K) := by subst h; exact op_eqD hu
theorem k_neD (K : PySem.W.Frag) (h : X.K = K) (hu : X.A.units + 64 < cLine) : OpR X (compareOp .NotEq) (rNeD K) := by subst h; exact op_neD hu
theorem k_in (K : PySem.W.Frag) (h : X.K = K) : OpR X (compareOp .In) (rIn K false) := by subst h; exact op_in_seq
theorem k_notIn (K : PySem.W.Frag) (h : X.K = K) : OpR X (compareOp .NotIn) (rIn K true) := by subst h; exact op_notIn_seq
theorem k_piL (K : PySem.W.Frag) (h : X.K = K) {tg l : Expr} {tl : TE} (hl : PE X l tl) : PI X tg l (iList K tl) := by subst h; exact pi_list hl
theorem k_piT (K : PySem.W.Frag) (h : X.K = K) {tg l : Expr} {tl : TE} (hl : PE X l tl) : PI X tg l (iTup K tl) := by subst h; exact pi_tup hl
theorem k_piE (K : PySem.W.Frag) (h : X.K = K) {e : Expr} {ta : TA} {p pos tpos : Pos} {elts : List Expr} {kk : Nat} (hg : Gl X "enumerate") (hm : X.mg "enumerate" = none) (ha : PA X [e] ta) (hs : starEach [e] X.env = [(false, eval e X.env)] := by rfl) : PI X (.Tuple elts kk tpos) (.Call (.Name "enumerate" p) [e] [] pos) (iEnum K ta) := by subst h; exact pi_enum hg hm ha hs
theorem k_pgT (K : PySem.W.Frag) (h : X.K = K) {es : List Expr} {k : Nat} {t : TGs} {n : Nat} {pos : Pos} (hc : X.calm = true) (hp : PGs X es t) (hn : (assignEach es X.env).length = n := by rfl) (hst : (assignEach es X.env).findIdx? (·.1) = none := by rfl) : PG X (.Tuple es k pos) (gTup K n t) := by subst h; exact pg_tup hc hp hn hst
theorem k_pgL (K : PySem.W.Frag) (h : X.K = K) {es : List Expr} {k : Nat} {t : TGs} {n : Nat} {pos : Pos} (hc : X.calm = true) (hp : PGs X es t) (hn : (assignEach es X.env).length = n := by rfl) (hst : (assignEach es X.env).findIdx? (·.1) = none := by rfl) : PG X (.Tuple es k pos) (gUnl K n t) := by subst h; exact pg_unl hc hp hn hst
theorem k_fld (K : PySem.W.Frag) (h : X.K = K) {e : Expr} {f : Str} {pos : Pos} {ta : TE} (he : PE X e ta) (hb : attributeBase e f X.env (eval e X.env) = eval e X.env) : PE X (.Attribute e f pos) (tFld K ta f) := by subst h; exact pe_fld he hb
theorem k_index (K : PySem.W.Frag) (h : X.K = K) : MtR X "list.index" (rIndex K) := by subst h; exact mt_index
end
/-! ### small things -/
theorem fresh {H : Hp} {p : Addr} (o : HO) (np : H p = none) : ∃ H', upd H p o = H' ∧ Same H H' ∧ H' p = some o := ⟨_, rfl, same_upd np, upd_same⟩
theorem cut_take (xs : List V) (k : Nat) : cutV xs none (some (k : Int)) = xs.take k := by
  unfold cutV
  rw [HT.sIx_nat, HT.sIx_none, List.drop_zero, Nat.sub_zero]
  rcases Nat.le_total k xs.length with h | h
  · rw [Nat.min_eq_left h]
  · rw [Nat.min_eq_right h, List.take_of_length_le h, List.take_length]
theorem cut_drop (xs : List V) (k : Nat) : cutV xs (some (k : Int)) none = xs.drop k := by
  unfold cutV
  rw [HT.sIx_nat, HT.sIx_none]
  rcases Nat.le_total k xs.length with h | h
  · rw [Nat.min_eq_left h, List.take_of_length_le (by rw [List.length_drop]; exact Nat.le_refl _)]
  · rw [Nat.min_eq_right h, List.drop_length, List.drop_of_length_le h, List.take_nil]
theorem rep_ints (k : Nat) (ks : List Int) : (List.replicate k (ks.map V.int)).flatten = ((List.replicate k ks).flatten).map V.int := by
  rw [List.map_flatten, List.map_replicate]
theorem rep_len {α : Type} (k : Nat) (ks : List α) : ((List.replicate k ks).flatten).length = k * ks.length := by
  induction k with
  | zero => simp
  | succ k ih => rw [List.replicate_succ, List.flatten_cons, List.length_append, ih, Nat.succ_mul]; omega
theorem rep_mem {α : Type} {k : Nat} {ks : List α} {x : α} (h : x ∈ (List.replicate k ks).flatten) : x ∈ ks := by
  obtain ⟨l, hl, hx⟩ := List.mem_flatten.mp h
  rw [(List.mem_replicate.mp hl).2] at hx
  exact hx
/-! ### comprehensions that make new things: R tells what is known of the i-th; D is no part of it -/
def Off (D : Addr) (H H' : Hp) : Prop := ∀ b o, b ≠ D → H b = some o → H' b = some o
def RelPv (R : Nat → V → Hp → Prop) (H1 : Hp) (D : Addr) (i : Nat) (H : Hp) : Prop := ∃ ys : List V, Same H1 H ∧ H D = some (.lst ys) ∧ ys.length = i ∧ ∀ (k : Nat) (y : V), ys[k]? = some y → R k y H
theorem lc_relR {lo : Int} {n : Nat} {j : Nat} {te : TE} {vs : List Nat} {σ : L2.St} {H1 : Hp} {D : Addr} {Qd : Hp → Prop} (R : Nat → V → Hp → Prop) (nD : H1 D = none) (hz : n < sizeLine)
    (mono : ∀ i y H H', Off D H H' → R i y H → R i y H')
    (hw : ∀ x, wipe ((wipe σ vs).set j (some x)) vs = wipe σ vs)
    (hs : ∀ (i : Nat) (H' : Hp) (xs : List V), i < n → Same H1 H' → H' D = some (.lst xs) → ∀ Qt : V → Hp → Prop, (∀ y H'', Same H' H'' → R i y H'' → Qt y H'') → te ((wipe σ vs).set j (some (.int (lo + (i : Int))))) H' Qt)
    (hd : ∀ H' ys, Same H1 H' → H' D = some (.lst ys) → ys.length = n → (∀ (i : Nat) (y : V), ys[i]? = some y → R i y H') → Qd H') :
    ∃ W : Nat → Nat → Hp → Prop, (∃ m, W 0 m (upd H1 D (.lst []))) ∧ ∀ i m H, W i m H →
      ((Itr lo n).stop i H ∧ Qd H) ∨ ((Itr lo n).go i H ∧ ∃ Nx : Hp → Prop, (∀ H', Nx H' → ∃ m', m' < m ∧ W (i + 1) m' H') ∧ ∀ x H', (Itr lo n).yld i H x H' → gName j x (wipe σ vs) H' fun σ2 H2 => wipe σ2 vs = wipe σ vs ∧ tYes σ2 H2 fun b H3 =>
        if b = true then te σ2 H3 fun y H4 => ∃ acc, H4 D = some (.lst acc) ∧ acc.length < sizeLine ∧ Nx (upd H4 D (.lst (acc ++ [y]))) else Nx H3) := by
  refine lc_range (lo := lo) (n := n) (RelPv R H1 D) ⟨[], same_upd nD, upd_same, rfl, fun k y h => by simp at h⟩ ?_ ?_
  · rintro i H hi ⟨ys, s, hD, hl, hR⟩
    refine ⟨hw _, ?_⟩
    show if true = true then te ((wipe σ vs).set j (some (.int (lo + (i : Int))))) H (fun y H4 => ∃ acc, H4 D = some (.lst acc) ∧ acc.length < sizeLine ∧ RelPv R H1 D (i + 1) (upd H4 D (.lst (acc ++ [y])))) else RelPv R H1 D (i + 1) H
    refine iteT (hs i H ys hi s hD _ fun y H4 s4 r4 => ?_)
    refine ⟨ys, s4 _ _ hD, by omega, ys ++ [y], same_over nD (s.trans s4), upd_same, by rw [List.length_append, hl]; rfl, fun k z hz => ?_⟩
    have off : Off D H4 (upd H4 D (.lst (ys ++ [y]))) := fun b o nb h => by rw [upd_ne nb]; exact h
    by_cases hk : k < ys.length
    · rw [List.getElem?_append_left hk] at hz
      exact mono k z H _ (fun b o nb h => off b o nb (s4 b o h)) (hR k z hz)
    · rw [List.getElem?_append_right (by omega)] at hz
      have hk2 : k - ys.length = 0 := by
        have h2 := (List.getElem?_eq_some_iff.mp hz).1
        rw [List.length_singleton] at h2
        omega
      rw [hk2] at hz
      cases hz
      have ek : k = i := by omega
      rw [ek]
      exact mono i y H4 _ off r4
  · rintro H ⟨ys, s, hD, hl, hR⟩
    exact hd H ys s hD hl hR
/-! ### ways that are told by whole numbers -/
theorem iteDT {p A B : Prop} [Decidable p] (hp : p) (h : A) : if decide p = true then A else B := by rw [decide_eq_true hp]; exact iteT h
theorem iteDF {p A B : Prop} [Decidable p] (hp : ¬ p) (h : B) : if decide p = true then A else B := by rw [decide_eq_false hp]; exact iteF h
theorem iteNT {p A B : Prop} [Decidable p] (hp : ¬ p) (h : A) : if (!decide p) = true then A else B := by rw [decide_eq_false hp]; exact iteT h
theorem iteNF {p A B : Prop} [Decidable p] (hp : p) (h : B) : if (!decide p) = true then A else B := by rw [decide_eq_true hp]; exact iteF h
theorem iteET {a b : Int} {A B : Prop} [Decidable (V.int a = V.int b)] (hp : a = b) (h : A) : if decide (V.int a = V.int b) = true then A else B := iteDT (congrArg V.int hp) h
theorem iteEF {a b : Int} {A B : Prop} [Decidable (V.int a = V.int b)] (hp : ¬ a = b) (h : B) : if decide (V.int a = V.int b) = true then A else B := iteDF (fun z => hp (V.int.inj z)) h
theorem iteENT {a b : Int} {A B : Prop} [Decidable (V.int a = V.int b)] (hp : ¬ a = b) (h : A) : if (!decide (V.int a = V.int b)) = true then A else B := iteNT (fun z => hp (V.int.inj z)) h
theorem iteENF {a b : Int} {A B : Prop} [Decidable (V.int a = V.int b)] (hp : a = b) (h : B) : if (!decide (V.int a = V.int b)) = true then A else B := iteNF (congrArg V.int hp) h
theorem iteNtt {A B : Prop} (h : B) : if (!true) = true then A else B := h
theorem iteNff {A B : Prop} (h : A) : if (!false) = true then A else B := h
/-- 1 or 0 of a comparison -/
theorem int_if {p : Prop} [Decidable p] : (if decide p = true then (1 : Int) else 0) = if p then 1 else 0 := by by_cases h : p <;> simp [h]
end Pre

namespace My
open PySem PySem.Spec PyProof.Rows L2
/-! ### own errors whose __init__ says super().__init__(value); self.value = value -/
namespace Sup
open PySem.W PySem.Calls
section
variable {prog : Program} {w : World} {A : Around} {E : Value → Shared → Prop} {h : Heap} {g : Array GenState} {d : Drawn} {t : Nat} {os : OsState}
variable {nm q : Str} {C N : Addr} {bs bm : List Value} {hdct : Bool} {sn : List Str} {sub : List Value} {ab : Bool} {col : Option Bool} {dd : Option Addr} {k0 k1 k2 k3 k5 : Option Value}
theorem call_bwV {u e t0 : Addr} {rest : List Value} {Q : Value → Shared → Prop}
    (hC : h.get? C = some (excClassObj nm q C N bs bm hdct sn sub ab col dd k0 k1 k2 k3 k5 "ValueError.__new__")) (he : h.get? e = some (HandSPX.excO C t0)) (hu : h.get? u = some (kxs_mw "ValueError.__init__" e)) (hrest : rest.length ≤ sizeLine)
    (hq : ∀ h' t1, (∀ b o, b ≠ e → h.get? b = some o → h'.get? b = some o) → h'.get? e = some (HandSPX.excO C t1) → Q .none ⟨h', g, d, t, os⟩) :
    wpAny (model prog w) A (call (.ref u) rest) Q E ⟨h, g, d, t, os⟩ := by
  refine wpAny_call (codeAny_of_tree ?_)
  show wpAny _ A.in1 (callAny (.ref u) ⟨rest, []⟩) _ _ _
  simp only [callAny]
  refine wpAny_bind (wpAny_load hu ?_)
  simp only [kxs_mw, show (Value.type "method-wrapper" == Value.type "method" || Value.type "method-wrapper" == Value.type "builtin_function_or_method" || Value.type "method-wrapper" == Value.type "method-wrapper") = true by decide, if_true]
  refine W.KFB.if_so (by decide) ?_
  refine wpAny_bind (ESX.check_bound F.excBase_ValueError hC he rfl ?_)
  refine wpAny_bind (wpAny_pure (wpAny_pure ?_))
  refine ⟨Code.quiet_builtin _ (by decide +kernel), codeAny_builtin F.excBase_ValueError.initEntry ?_⟩
  rw [Around.under_plainId F.excBase_ValueError.init.plain _]
  exact exc_init_tree (cls := .ref C) (t0 := t0) (dv := none) (c2 := .none) (c3 := .none) (b4 := .bool false) he hrest fun h' k e' _ => hq h' _ k e'
end
/-- the file of the program: what its code objects are asked for -/
class PF (P : Program) (file : Str) : Prop where
  file : ((P.main.file : Str) == file) = true
  top : (P.main.scope.names.lookup ("super" : Str)).isSome = false
/-- what the written part says of such a class C, named x, and its __init__ at fI -/
structure SupC (K : Frag) (file x : Str) (st : Stmt) (C fI : Addr) (fd : FuncData) : Prop where
  T : OexC K C
  ex : ∃ (oc : Value) (od : Option Addr) (dV kV doc pm : Value) (an : Option Addr) (c cc : Addr) (ct : Value) (osl : Array (Option Value)),
    fd = ksFn "__init__" (x ++ (".__init__" : Str)) (defArgs st) (defBody st) (defScope st) dV kV doc pm an (.ref c) ct cc ∧ K.lookup fI = some ⟨oc, od, .func fd, osl⟩ ∧ codeIn K (.ref c) (x ++ (".__init__" : Str)) = true ∧
    (∃ (ccl : Value) (cdd : Option Addr) (vs : Array Value) (ccs : Array (Option Value)) (tf : Tok), K.lookup c = some ⟨ccl, cdd, .fields vs, ccs⟩ ∧ vs[2]? = some (.str file tf)) ∧ (∃ (cl : Value) (cld : Option Addr) (csl : Array (Option Value)), K.lookup cc = some ⟨cl, cld, .cell (some (.ref C)), csl⟩)
  sup : ks_superIn K C C "__init__" = some (some (.builtin "ValueError.__init__"))
  subV : subIn K (.ref C) (.type "ValueError") = some true
  subC : mroIn K C (.ref C) = some true
  opq : nsIn K cStatics "thirdparty.any" = some none
  nov : findIn K (.ref C) "value" = some none
/-- the body's shape -/
def SupBody (st : Stmt) : Prop := ∃ p0 p1 p2 p3 p4 p5 p6 p7 p8 p9 : Pos,
  defBody st = [.Expr (.Call (.Attribute (.Call (.Name "super" p0) [] [] p1) "__init__" p2) [.Name "value" p3] [] p4) p5, .Assign [.Attribute (.Name "self" p6) "value" p7] (.Name "value" p8) p9] ∧
  ((defArgs st).posonlyargs ++ (defArgs st).args).head?.map (·.arg) = some ("self" : Str) ∧
  ∀ env : Env, ∃ pl : Sem Bool, eval (.Call (.Attribute (.Call (.Name "super" p0) [] [] p1) "__init__" p2) [.Name "value" p3] [] p4) env = (do
      let ov ← attributeBase (.Call (.Name "super" p0) [] [] p1) "__init__" env (eval (.Call (.Name "super" p0) [] [] p1) env)
      standAt p2.atName
      let (f, first) ← holding [ov] (getMethod ov "__init__" pl)
      callWith p4 f first (backTo p4 (starEach [.Name "value" p3] env)) [])
def sp_exc_init (C : Addr) : Sp := fun vs H Q _ => ∃ (a : Addr) (v : V), vs = [.ref a, v] ∧ H a = some (exo a C none) ∧ ∀ d, H d = none → d ≠ a → Q .non (upd (upd H d (exd d [("value", v)])) a (exo a C (some d)))
section
variable {P : Program} {w : World} {K : Frag} {mg : Str → Option Value} {base : Heap} {CX : CXT} {file x : Str} {st : Stmt} {C fI : Addr} {fd : FuncData}
theorem fn_sup [pf : PF P file] (S : NdefX.NScope ["self", "value", "__class__"] ["self", "value"] ["__class__"] (defScope st)) (hgs : (defScope st).names.lookup ("super" : Str) = some .globalImplicit) (hb0 : SupBody st) (F : SupC K file x st C fI fd) (nosup : mg ("super" : Str) = none) :
    FnOk P w K mg base CX 1 fI fd ["self", "value"] (sp_exc_init C) := by
  refine ⟨fun vs H Q E h => by obtain ⟨a, v, rfl, _⟩ := h; rfl, fun A outer s H args us vs Q E hr e0 hb rv hsp => ?_⟩
  obtain ⟨a, v, rfl, ha, q⟩ := hsp
  obtain ⟨oc, od, dV, kV, doc, pm, an, c, cc, ct, osl, rfl, lk, hcd, ⟨ccl, cdd, cvs, ccs, tf, lkc, hvs⟩, cl, cld, csl, lkcc⟩ := F.ex
  obtain ⟨p0, p1, p2, p3, p4, p5, p6, p7, p8, p9, hbody, hself, hev⟩ := hb0
  obtain ⟨pl, hpl⟩ := hev (NdefX.envF ⟨"__init__", x ++ (".__init__" : Str), defArgs st, defBody st, defScope st, [("__class__", cc)], c⟩ fI s.heap.objs.size)
  have hin : K.In s.heap := e0.mod.kin.keeps fun b o z => (e0.bs b o z).1
  have lim : s.heap.NoLimit := e0.mod.nolimit.keeps fun b o e => (e0.bs b o e).1
  let Fn : NdefX.NF := ⟨"__init__", x ++ (".__init__" : Str), defArgs st, defBody st, defScope st, [("__class__", cc)], c⟩
  refine codeAny_call_function hr.depth (hin _ _ lk) rfl S.co S.gen rfl (codeRec_of hin hcd) (hb _ _ _ _ ?_)
  refine wpAny_newFunctionEnv S.nocell (fun ⟨n, _⟩ hy => S.par n (List.of_mem_zip hy).1) (fun h₁ hns hsb => ⟨lim.fresh _ hsb, ?_⟩) S.kind
  show codeAny _ _ (.func (defBody st) (NdefX.envF Fn fI s.heap.objs.size)) _ _
  have kp : ∀ b o, s.heap.get? b = some o → h₁.get? b = some o := fun b o e => hsb.extBut b o (Nat.ne_of_lt (Heap.lt_size e)) (Heap.get?_push_of_some _ e)
  have hcc : ∀ y c', ([("__class__", cc)] : List (Str × Addr)).lookup y = some c' → y = ("__class__" : Str) ∧ c' = cc := fun y c' e => by
    by_cases h : y = ("__class__" : Str)
    · subst h
      cases e
      exact ⟨rfl, rfl⟩
    · rw [List.lookup_cons, show (y == ("__class__" : Str)) = false by simpa using h] at e
      cases e
  have cells : NdefX.CellsAt Fn.cl ["__class__"] [some (.ref C)] s.heap H := {
    len := rfl
    all := fun y c' e => by
      obtain ⟨_, rfl⟩ := hcc y c' e
      exact ⟨(e0.bs _ _ (e0.mod.kin _ _ lkcc)).2, _, _, hin _ _ lkcc, rfl⟩
    inj := fun y z c' e1 e2 => by rw [(hcc y c' e1).1, (hcc z c' e2).1]
    has := fun i y e => by
      cases i with
      | zero =>
        cases e
        refine ⟨cc, rfl, fun u hu => ?_⟩
        cases hu
        exact ⟨.ref C, rfl, _, hin _ _ lkcc, rfl⟩
      | succ i => simp at e }
  have I : Inv (NdefX.ncx CX P w K mg base ["self", "value", "__class__"] Fn fI A outer s H E) [] (NdefX.startF ["self", "value", "__class__"] [.ref a, v] [some (.ref C)]) H { s with heap := h₁, toks := s.toks + (["self", "value"].zip us).length } := NdefX.inv_startN S hr.hd e0 rfl rv cells hns kp
  obtain ⟨nm, q0, N, bs, bm, sn, sub, ab, col, dd, k0, k1, k2, k3, k5, hC, hbm⟩ := F.T.cls
  have hcl : clsIn K C = some { name := nm, bases := bs, mro := .ref C :: bm, ns := N, qualname := q0, hasDict := true, slotNames := sn, subclasses := sub, abstract := ab, collection := col, hasDel := false } := by unfold clsIn; rw [hC] <;> rfl
  refine ks_codeAny_funcAt ?_
  rw [hbody]
  obtain ⟨ar, hp, har⟩ : ∃ ar, ((defArgs st).posonlyargs ++ (defArgs st).args).head? = some ar ∧ ar.arg = ("self" : Str) := by
    cases e : ((defArgs st).posonlyargs ++ (defArgs st).args).head? with
    | none => rw [e] at hself; cases hself
    | some ar => rw [e] at hself; exact ⟨ar, rfl, Option.some.inj hself⟩
  have X1 : K.In h₁ := hin.keeps kp
  obtain ⟨ual, rfl⟩ : ∃ u1, us = [.ref a, u1] := by
    cases rv with
    | cons r1 r2 => cases r2 with
      | cons r3 r4 => cases r4; cases r1; exact ⟨_, rfl⟩
  refine ks_wpAt_execs_cons (ks_wpAt_Expr_any (ks_wpAt_MethodCall (pl := pl) ?_ hpl) I.quiet)
  refine ks_wpAt_super_base (env := NdefX.envF Fn fI s.heap.objs.size) hgs (S.frk _ (by simp)) (by decide) rfl (X1 _ _ lk) rfl hp rfl (X1 _ _ lkc) rfl hvs pf.file pf.top ?_
  obtain ⟨mb, hb1, hb2⟩ := I.mod.blt
  refine ks_loadName_global S.kind hgs (loadGlobal_builtin (env := NdefX.envF Fn fI s.heap.objs.size) (I.mod.glob.keeps I.bk) nosup (hb1.keeps I.bk) ((hb2 _ (by decide)).trans (show bootBuiltins "super" = some (.type "super") by decide +kernel)) ⟨rfl, ?_⟩)
  refine wpAny_loadName_free S.kind (S.frk _ (by simp)) rfl ⟨_, X1 _ _ lkcc, rfl⟩ ?_
  rw [har]
  refine wpAny_loadName_local S.kind (S.par _ (by simp)) hns rfl ?_
  obtain ⟨t1, he0⟩ := exo_at e0.hok ha
  have he1 := kp _ _ he0
  refine ks_wpAny_isType_cls (X1 _ _ hC) rfl ⟨rfl, ?_⟩
  refine ks_wpAny_call_super (X1 _ _ hC) rfl he1 rfl (fun c e => by cases e) (looks_mroIn X1 F.subC) (fun h2 hso k2 => ?_)
  have X2 : K.In h2 := X1.keeps k2
  have he2 := k2 _ _ he1
  have IA : InstAt h2 a (HandSPX.excO C t1) C none := ⟨he2, rfl, rfl, trivial⟩
  have hf := F.sup
  unfold ks_superIn at hf
  rw [hcl] at hf
  refine kxs_getMethod kxs_ValueError hso (looks_opaque X2 F.opq) (l₀ := .ref C :: bm) (fun A Q E s k q => wpAny_bind ((looks_clsIn X2 hcl) A _ E s k (wpAny_pure q))) rfl X2 hf (IA.type.andThen (looks_subIn X2 F.subV)) (ks_ne X2 IA hcl) (by decide) ?_
  have k3 : ∀ b o, h₁.get? b = some o → (h2.push (kxs_mw "ValueError.__init__" a)).get? b = some o := fun b o e => Heap.get?_push_of_some _ (k2 b o e)
  have I3 := I.kept (h' := h2.push (kxs_mw "ValueError.__init__" a)) (t' := s.toks + (["self", "value"].zip [Value.ref a, ual]).length + 1) k3
  refine kxs_callWith (i := "ValueError.__init__") (x := a) rfl ?_
  rw [show starEach [Expr.Name "value" p3] (NdefX.envF Fn fI s.heap.objs.size) = (false, eval (.Name "value" p3) (NdefX.envF Fn fI s.heap.objs.size)) :: starEach [] (NdefX.envF Fn fI s.heap.objs.size) from rfl]
  refine evalArgs_plain ?_
  refine spliced_cons ?_
  obtain ⟨m, hn, hl⟩ := I3.loc
  obtain ⟨u, ru, l⟩ := hl 1 "value" v rfl rfl (.inl (S.par _ (by simp)))
  have fin : wpAny (model P w) (A.deeper (NdefX.envF Fn fI s.heap.objs.size)) (eval (.Name "value" p3) (NdefX.envF Fn fI s.heap.objs.size)) (fun z s' => z = u ∧ s' = { s with heap := h2.push (kxs_mw "ValueError.__init__" a), toks := s.toks + (["self", "value"].zip [Value.ref a, ual]).length + 1 }) (fun e s' =>
      wpAny (model P w) (A.deeper (NdefX.envF Fn fI s.heap.objs.size)) (leaving (NdefX.envF Fn fI s.heap.objs.size) e)
        (fun x s'' => CR CX outer P w H s Q E (Except.error e) s'')
        (fun e' s'' => CR CX outer P w H s Q E (Except.error e') s'') s') { s with heap := h2.push (kxs_mw "ValueError.__init__" a), toks := s.toks + (["self", "value"].zip [Value.ref a, ual]).length + 1 } := by
    rcases l with ⟨hk, hm⟩ | ⟨hk, _⟩
    · exact wpAny_Name (wpAny_loadName_local S.kind hk hn hm ⟨rfl, rfl⟩) (by decide)
    · have hv : (defScope st).names.lookup ("value" : Str) = some .local := S.par _ (by simp)
      rcases hk with hk | hk <;> exact absurd (hv.symm.trans hk) (by intro z; cases z)
  refine wpAny_mono fin (fun z s' hz => ?_) fun _ _ z => z
  obtain ⟨rfl, rfl⟩ := hz
  refine spliced_nil ⟨Heap.get?_push_at rfl rfl, ?_⟩
  refine call_bwV (e := a) (t0 := t1) (X2.keeps (fun b o e => Heap.get?_push_of_some _ e) _ _ hC) (Heap.get?_push_of_some _ he2) (Heap.get?_push_at rfl rfl) (by show 1 ≤ sizeLine; decide) fun h' t2 k4 hx => ?_
  refine wpAt_of_wpAny ?_
  have J := I3.write (t' := s.toks + (["self", "value"].zip [Value.ref a, ual]).length + 1) (x := a) (e := a) (o := exo a C none) (by rw [ha]; exact True.intro) (.inl rfl) k4 ⟨_, hx⟩ (exo_ok hx)
  have eu : upd H a (exo a C none) = H := by
    funext b
    by_cases hb : b = a
    · rw [hb, upd_same, ha]
    · rw [upd_ne hb]
  rw [eu] at J
  have ht : PSs (NdefX.ncx CX P w K mg base ["self", "value", "__class__"] Fn fI A outer s H E) [.Assign [.Attribute (.Name "self" p6) "value" p7] (.Name "value" p8) p9] (tOst K "value" (tVar 0) (tVar 1)) :=
    pss_one (ps_ost (pe_var (i := 0) rfl (.inl (S.par _ (by simp)))) (pe_var (i := 1) rfl (.inl (S.par _ (by simp)))))
  refine wpAny_mono (ht.run [] _ _ H { nx := fun _ H' => Q .non H', rt := Q } J ⟨v, rfl, .ref a, rfl, a, C, rfl, F.T, F.nov, .inl ⟨ha, fun dx n ne => q dx n ne⟩⟩) (fun fl s' hs => ?_) fun e s' hs => hs
  have fin : ∀ {σ' : L2.St} {H' : Hp} {v : V} {u : Value}, Inv (NdefX.ncx CX P w K mg base ["self", "value", "__class__"] Fn fI A outer s H E) [] σ' H' s' → L2.RelV v u → Q v H' → CE outer P w H s Q u s' :=
    fun {σ' H' v u} J rv q => ⟨v, H', J.os, J.bare, J.base, J.hok, rv, q⟩
  cases fl with
  | ret u =>
    obtain ⟨v, σ', H', J, rv, q⟩ := hs
    exact fin J rv q
  | next =>
    obtain ⟨σ', H', J, q⟩ := hs
    exact fin (v := V.non) (u := Value.none) J rfl q
  | brk =>
    obtain ⟨_, _, _, q⟩ := hs
    exact False.elim q
  | cont =>
    obtain ⟨_, _, _, q⟩ := hs
    exact False.elim q
end
end Sup
end My

namespace My
open PySem PySem.Spec PyProof.Rows L2
/-! ### such an error raised; its value in an except suite; several clauses with a name -/
/-- what is left to be shown behind the making of such an error with the value v -/
theorem mk_sup {C : Addr} {v : V} {H1 : Hp} {Q : XK} (q : ∀ d, H1 d = none → Q (.ref C) (some d) (upd H1 d (.xd [("value", v)]))) : [v].length ≤ 1000 ∧ ∀ a, H1 a = none → Sup.sp_exc_init C (.ref a :: ([v] ++ [])) (upd H1 a (exo a C none))
    (fun w H2 => w = .non ∧ ∃ (d : Addr) (fs : List (Str × V)), H2 a = some (exo a C (some d)) ∧ H2 d = some (exd d fs) ∧ H1 d = none ∧ Q (.ref C) (some d) (upd (del H2 a) d (.xd fs))) (fun _ _ _ => False) := by
  refine ⟨by show 1 ≤ 1000; decide, fun a na => ⟨a, v, rfl, upd_same, fun d nd da => ⟨rfl, d, [("value", v)], upd_same, ?_, ?_, ?_⟩⟩⟩
  · rw [upd_ne da, upd_same]
  · rw [upd_ne da] at nd
    exact nd
  · have hn : H1 d = none := by rw [upd_ne da] at nd; exact nd
    have e : upd (del (upd (upd (upd H1 a (exo a C none)) d (exd d [("value", v)])) a (exo a C (some d))) a) d (.xd [("value", v)]) = upd H1 d (.xd [("value", v)]) := by
      funext b
      by_cases hb : b = d
      · rw [hb, upd_same, upd_same]
      · rw [upd_ne hb, upd_ne hb]
        by_cases hba : b = a
        · rw [hba, del_same, na]
        · rw [del_ne hba, upd_ne hba, upd_ne hb, upd_ne hba]
    rw [e]
    exact q d hn
/-- the reading of err.f, the class of err told there -/
def tXfA (K : PySem.W.Frag) (a : Addr) (cls : Value) (d : Option Addr) (f : Str) (te : TE) : TE := fun σ H Q => te σ H fun x H1 => x = .ref a ∧ ∃ C : Addr, cls = .ref C ∧ XfC K C ∧ PySem.W.findIn K (.ref C) f = some none ∧ ∃ (dd : Addr) (fs : List (Str × V)) (v : V), d = some dd ∧ H1 dd = some (.xd fs) ∧ fs.lookup f = some v ∧ Q v H1
theorem pe_xfA {X : Cx} {a : Addr} {oe : Obj} {cls : Value} {d : Option Addr} {pn : List (Addr × Obj)} {e : Expr} {te : TE} {pos : Pos} {n : Str}
    (hz : Zc cls d oe) (hf : ∃ vs, oe.data = .fields vs) (he : PE (X.suite a ((a, oe) :: pn)) e te) (hb : attributeBase e n X.env (eval e X.env) = eval e X.env := by rfl) :
    PE (X.suite a ((a, oe) :: pn)) (.Attribute e n pos) (tXfA X.K a cls d n te) := by
  refine ⟨fun pins s σ H Q I h => ?_⟩
  refine attr_of hb (thn (he.run pins s σ H _ I h) fun u s1 hh => ?_)
  obtain ⟨x, H1, I1, rx, ex, C, ec, T, hno, dd, fs, v, ed, ea, l, q⟩ := hh
  subst ex
  obtain rfl : u = Value.ref a := rx
  subst ec
  subst ed
  obtain ⟨ha, _⟩ := I1.pin (a, oe) (List.mem_append_left _ List.mem_cons_self)
  obtain ⟨vs, hd⟩ := hf
  have hx : ObjOk X.prog X.w H1 s1.heap dd (.xd fs) := I1.hok dd _ ea
  obtain ⟨mA, hns, hr⟩ := hx
  obtain ⟨od, ho, hl⟩ := lookIn_ns hns
  obtain ⟨u, hu, ru⟩ := RelO.some_of (v := v) (o := mA n) (by rw [← l]; exact hr n)
  have J : PySem.W.InstAt s1.heap a oe C (some od) := ⟨ha, hz.1, by unfold PySem.W.notCls; rw [hd] <;> rfl, by rw [hz.2]; exact ho⟩
  exact HandSPX.exc_get I1.kIn J T.ga T.gg T.exC (PySem.W.findObj_own T.hdC hno rfl (by rw [hl, hu])) (handed_of ru) ⟨v, H1, I1.tok _, ru, q⟩
/-- what the clauses 'except x as n' wish of an exception of the body, one after the other; slot i is n's -/
def wManyAs (K : PySem.W.Frag) (i : Nat) (Wout : WX) (D : Ends) : List (Value × (Addr → Value → Option Addr → TS)) → WX
  | [] => Wout
  | (c, ts) :: r => fun cls d σ H => ∃ b, PySem.W.exmOne K cls c = some b ∧ (b = true → ∀ a, H a = none → ts a cls d { nx := fun σ' H' => D.nx (σ'.set i none) H', rt := D.rt, bk := fun σ' H' => D.bk (σ'.set i none) H', ct := fun σ' H' => D.ct (σ'.set i none) H' } (σ.set i (some (.ref a))) H) ∧
    (b = false → wManyAs K i Wout D r cls d σ H)
inductive HdsAs (X : Cx) (n : Str) : List ExceptHandler → List (Value × (Addr → Value → Option Addr → TS)) → Prop
  | nil : HdsAs X n [] []
  | cons {x : Str} {c : Value} {ts : Addr → Value → Option Addr → TS} {b₀ : Stmt} {suite : List Stmt} {np pos' : Pos} {hds : List ExceptHandler} {l : List (Value × (Addr → Value → Option Addr → TS))} (hc : Names X x c)
      (hsu : ∀ (a : Addr) (oe : Obj) (cls : Value) (d : Option Addr) (pn : List (Addr × Obj)), Zc cls d oe → (∃ vs, oe.data = .fields vs) → PSs (X.suite a ((a, oe) :: pn)) (b₀ :: suite) (ts a cls d)) (r : HdsAs X n hds l) :
      HdsAs X n (.ExceptHandler (some (.Name x np)) (some n) (b₀ :: suite) pos' :: hds) ((c, ts) :: l)
section
variable {X : Cx} {n : Str} {i : Nat} {body : List Stmt} {h₀ : ExceptHandler} {hds : List ExceptHandler} {l : List (Value × (Addr → Value → Option Addr → TS))} {pos : Pos} {tb : WX → TS} {Wout : WX}
theorem ps_try_manyAs (hs : X.stack = X.env :: X.outer) (hf : X.env.frame = some X.env.locals) (hN : X.N.Nodup) (hi : X.N[i]? = some n) (hln : X.env.kindOf n = some .local) (tk : Takes X Wout)
    (hb : ∀ (W : WX) (pn : List (Addr × Obj)) (xe : Value → Shared → Prop), Takes (X.tr pn xe) W → PassesOwn (model X.prog X.w) X.A X.env xe → PSs (X.tr pn xe) body (tb W))
    (hh : HdsAs X n (h₀ :: hds) l) : PS X (.Try body (h₀ :: hds) [] [] pos) (fun D σ H => tb (wManyAs X.K i Wout D l) D σ H) := by
  refine ⟨fun pins s σ H D I h => ?_⟩
  have ok := I.ok
  have hfr : X.A.frames = some (X.env :: X.outer) := by rw [ok.frames, hs]
  have hloc : Loc X.env.scope n := .inl hln
  refine wpAny_Try_except ?_
  refine wpAny_mono ((hb (wManyAs X.K i Wout D l) (X.pn ++ pins) (fun e s₁ => wpAny (model X.prog X.w) X.A (noteFrame e X.env) (fun _ s₂ => wpAny (model X.prog X.w) X.A (setFlight e none) (fun _ s₃ =>
    wpAny (model X.prog X.w) X.A (handleBy e X.env (h₀ :: hds)) (SP X pins D) X.xe s₃) X.xe s₂) X.xe s₁) (fun u s' xx => ?_) PassesOwn.looking).run [] s σ H D (I.toTry _) h) (fun f s1 hsp => ?_) (fun e s1 he => he)
  · -- the catch
    obtain ⟨a, B, sI, pins', σ', H', cls, d, rfl, J', nb, up, sky, na, os, ag, w⟩ := xx
    have J : Inv X pins σ' H' sI := J'.ofTry ok
    have sky' : Sky B (X.env :: X.outer) a (Zc cls d) X.env.locals s'.heap := by rw [← hs]; exact sky
    show wpAny (model X.prog X.w) X.A (noteFrame (.ref a) X.env) _ _ _
    refine Sky.land Zc.steady hfr hf sky' fun h3 fl3 up3 => ?_
    have J3 : Inv X pins σ' H' { s' with heap := h3 } := J.landed nb fl3.1 (up.trans up3) os ag
    obtain ⟨oe3, vs3, he3, hz3, hd3⟩ := fl3.there
    have notFr : ∀ {h : Heap} {o : Obj} {vs : Array Value}, h.FunFrames B (X.env :: X.outer) → h.get? a = some o → o.data = .fields vs → a ∉ frs (X.env :: X.outer) := fun {h o vs} ff e dd hm => by
      obtain ⟨_, o', e', hnf⟩ := ff.mem hm
      rw [e] at e'; cases e'
      exact hnf _ dd
    have nfr := notFr fl3.2.2.1 he3 hd3
    have nL : a ≠ X.env.locals := fun z => nfr (List.mem_filterMap.mpr ⟨X.env, List.mem_cons_self, by rw [hf, z]⟩)
    have nF : a ∉ X.fs := fun hm => by
      obtain ⟨e, he, q⟩ := List.mem_filterMap.mp hm
      exact nfr (List.mem_filterMap.mpr ⟨e, List.mem_cons_of_mem _ he, q⟩)
    have S3 := J3.suite he3 hd3 na nL nF
    have go : ∀ {hds' : List ExceptHandler} {l' : List (Value × (Addr → Value → Option Addr → TS))}, HdsAs X n hds' l' → wManyAs X.K i Wout D l' cls d σ' H' →
        wpAny (model X.prog X.w) X.A (handleBy (.ref a) X.env hds') (SP X pins D) X.xe { s' with heap := h3 } := by
      intro hds' l' hk
      induction hk with
      | nil =>
        intro w
        refine wpAny_handleBy_nil ?_
        obtain ⟨k1, k2, k3, oe, vs, T, oT, ts', he, hz, hd, h1, hr⟩ := id fl3
        unfold PySem.passOn
        refine wpAny_bind (wpAny_field he hd h1 ?_)
        rw [if_neg (show ¬ ((Value.ref T == Value.none) = true) from by simp)]
        have fin : wpAny (model X.prog X.w) X.A (setFlight (.ref a) X.env.frame) (fun _ s4 => wpAny (model X.prog X.w) X.A (throw (.ref a) : Sem Flow) (SP X pins D) X.xe s4) X.xe { s' with heap := h3 } := by
          rw [hf]
          refine HandSPX.setFlight_upZ fl3 fun h4 hh4 up4 => wpAny_throw (tk _ _ ?_)
          exact ⟨a, B, sI, pins, σ', H', cls, d, rfl, J, nb, (up.trans up3).trans up4, .inr (.inr (by rw [hs]; exact hh4)), na, os, ag, w⟩
        first
          | exact wpAny_bind (wpAny_pure (wpAny_bind fin))
          | exact wpAny_bind fin
      | @cons x c ts b₀ suite np pos' hds2 l2 hc hsu r ih =>
        intro w
        obtain ⟨b, hb1, hyes, hno⟩ := w
        refine wpAny_handleBy_cons (codeAny_handlers_test ?_) (by intro q; cases q)
        have LT : PySem.W.Looks (model X.prog X.w) h3 (typeOf (.ref a)) cls := fun A Q E s k q => wpAny_typeOf_ref (k _ _ he3) (by rw [hz3.1]; exact q)
        have LM := PySem.W.exm_one (M := model X.prog X.w) (J3.kIn) LT hb1
        have test : ∀ {Q : Value → Shared → Prop} {E : Value → Shared → Prop}, Q c { s' with heap := h3 } → wpAny (model X.prog X.w) (X.A.mark (some (.ref a))) (eval (.Name x np) X.env) Q E { s' with heap := h3 } := fun {Q E} q => by
          obtain ⟨hg, hdbg, hm | ⟨hm, hv, hnn⟩⟩ := hc
          · exact ld_glob (X := X.suite a ((a, oe3) :: (X.pn ++ pins))) S3 hg hm q hdbg
          · exact ld_blt (X := X.suite a ((a, oe3) :: (X.pn ++ pins))) S3 hg hm hv q hnn hdbg
        refine test (LM.here ?_)
        cases b with
        | true =>
          refine codeAny_handlers_suite_as ?_
          refine HandSPX.lands_againZ fl3 fun h4 fl4 up4 => ?_
          have J4 : Inv X pins σ' H' { s' with heap := h4 } := J.landed nb fl4.1 ((up.trans up3).trans up4) os ag
          obtain ⟨oe4, vs4, he4, hz4, hd4⟩ := fl4.there
          have S4 := J4.suite he4 hd4 na nL nF
          refine store_ok (X := X.suite a ((a, oe4) :: (X.pn ++ pins))) (v := .ref a) S4 hN hi hloc rfl (fun s5 S5 => ?_) (.inr hln)
          refine wpAny_mono ((hsu a oe4 cls d (X.pn ++ pins) hz4 ⟨_, hd4⟩).run [] s5 _ H' _ S5 (hyes rfl a na)) (fun f s6 hsp => ?_) (fun _ _ z => False.elim z)
          have end_ : ∀ {σ6 : L2.St} {H6 : Hp} {Q : Shared → Prop}, Inv (X.suite a ((a, oe4) :: (X.pn ++ pins))) [] σ6 H6 s6 → (∀ s7, Inv X pins (σ6.set i none) H6 s7 → Q s7) →
              wpAny (model X.prog X.w) X.A (do bindName X.env n .none; unbindBehindTheSuite X.env n pos') (fun _ s7 => Q s7) X.xe s6 := fun {σ6 H6 Q} S6 hq => gone_ok (S6.unsuite ok) hN hi hln hq
          cases f with
          | next =>
            obtain ⟨σ6, H6, S6, q6⟩ := hsp
            exact end_ S6 fun s7 J7 => ⟨_, _, J7, q6⟩
          | brk =>
            obtain ⟨σ6, H6, S6, q6⟩ := hsp
            exact end_ S6 fun s7 J7 => ⟨_, _, J7, q6⟩
          | cont =>
            obtain ⟨σ6, H6, S6, q6⟩ := hsp
            exact end_ S6 fun s7 J7 => ⟨_, _, J7, q6⟩
          | ret u =>
            obtain ⟨v6, σ6, H6, S6, r6, q6⟩ := hsp
            exact end_ S6 fun s7 J7 => ⟨_, _, _, J7, r6, q6⟩
        | false =>
          show wpAny _ X.A (handleBy (.ref a) X.env hds2) _ _ _
          exact ih (hno rfl)
    exact go hh w
  · cases f with
    | next =>
      obtain ⟨σ', H', J', q⟩ := hsp
      exact wpAny_execs_nil ⟨σ', H', J'.ofTry ok, q⟩
    | brk =>
      obtain ⟨σ', H', J', q⟩ := hsp
      exact ⟨σ', H', J'.ofTry ok, q⟩
    | cont =>
      obtain ⟨σ', H', J', q⟩ := hsp
      exact ⟨σ', H', J'.ofTry ok, q⟩
    | ret u =>
      obtain ⟨v, σ', H', J', r, q⟩ := hsp
      exact ⟨v, σ', H', J'.ofTry ok, r, q⟩
end
end My

namespace My
open PySem PySem.Spec PyProof.Rows L2
/-! ### own errors as they stand behind the top: what is asked of the written part -/
abbrev ErW : Type := Option (Str × Str × Arguments × FuncBody × Scope × Addr × Addr)
def erI (K : PySem.W.Frag) (x : Str) : Addr := match PySem.W.findIn K (.ref (He.ga K x)) "__init__" with
  | some (some (.ref a)) => a
  | _ => 0
def erW (K : PySem.W.Frag) (x : Str) : ErW := match K.lookup (erI K x) with
  | some ⟨_, _, .func fd, _⟩ => some (fd.name, fd.qualname, fd.params, fd.body, fd.scope, fd.globals, fd.builtins)
  | _ => none
/-- an own error class over ValueError -/
def oexB (K : PySem.W.Frag) (C : Addr) : Bool := match K.lookup C with
  | some ⟨.type "type", _, .cls cd, sl⟩ => (match cd.mro, sl.toList with
    | .ref C' :: bm, [_, _, _, _, some (.builtin n), _] => C' == C && (n == ("ValueError.__new__" : String) && (!cd.hasDel && (cd.hasDict && PySem.HandSPX.refsVE bm)))
    | _, _ => false)
  | _ => false
theorem oexB_ok {K : PySem.W.Frag} {C : Addr} (q : oexB K C = true) : ∃ nm qn N bs bm sn sub ab col dd k0 k1 k2 k3 k5, K.lookup C = some (excClassObj nm qn C N bs bm true sn sub ab col dd k0 k1 k2 k3 k5 "ValueError.__new__") ∧ PySem.HandSPX.refsVE bm = true := by
  unfold oexB at q
  split at q
  · rename_i dd cd sl ho
    split at q
    · rename_i C' bm k0 k1 k2 k3 n k5 hm hs
      simp only [Bool.and_eq_true, beq_iff_eq, Bool.not_eq_true'] at q
      obtain ⟨rfl, rfl, hdel, hdict, ht⟩ := q
      obtain ⟨nm, bs, mro, ns, qn, hd, sn, sub, ab, col, del⟩ := cd
      dsimp only at hm hdel hdict
      subst hm hdel hdict
      have hsl : sl = #[k0, k1, k2, k3, some (.builtin "ValueError.__new__"), k5] := by
        obtain ⟨l⟩ := sl
        simp only at hs
        rw [hs]
      subst hsl
      exact ⟨nm, qn, ns, bs, bm, sn, sub, ab, col, dd, k0, k1, k2, k3, k5, ho, ht⟩
    · cases q
  · cases q
/-- its __init__: one cell, of the class; code of the file; one default, None -/
def iniB (K : PySem.W.Frag) (file x : Str) : Bool := match K.lookup (erI K x) with
  | some ⟨_, _, .func fd, _⟩ => (match fd.closure with
    | [(n, cc)] => decide (n = ("__class__" : Str)) && ((match K.lookup cc with
      | some ⟨_, _, .cell (some (.ref C')), _⟩ => C' == He.ga K x
      | _ => false) && ((match fd.code with
        | .ref c => (match K.lookup c with
          | some ⟨_, _, .fields vs, _⟩ => (match (vs[2]? : Option Value) with
            | some (Value.str f _) => decide (f = file)
            | _ => false)
          | _ => false)
        | _ => false) && (PySem.W.codeIn K fd.code (x ++ (".__init__" : Str)) && (He.dflB K fd.defaults [.non] && He.kwdB K fd.kwdefaults []))))
    | _ => false)
  | _ => false
def errB (K : PySem.W.Frag) (file x : Str) : Bool :=
  oexB K (He.ga K x) && (iniB K file x && (xfB K (He.ga K x) && (decide (PySem.W.findIn K (.ref (He.ga K x)) "__setattr__" = some (some (.builtin "object.__setattr__"))) && (decide (PySem.W.subIn K (.ref (He.ga K x)) (.type "BaseException") = some true) && (decide (PySem.W.typeIn K (.ref (He.ga K x)) = some (.type "type")) && (PySem.W.keepIn K (.ref (He.ga K x)) &&
  (decide (PySem.W.ks_superIn K (He.ga K x) (He.ga K x) "__init__" = some (some (.builtin "ValueError.__init__"))) && (decide (PySem.W.subIn K (.ref (He.ga K x)) (.type "ValueError") = some true) && (decide (PySem.W.mroIn K (He.ga K x) (.ref (He.ga K x)) = some true) && (decide (PySem.W.nsIn K cStatics "thirdparty.any" = some none) && (decide (PySem.W.findIn K (.ref (He.ga K x)) "value" = some none) &&
  (decide (PySem.W.findIn K (.ref (He.ga K x)) "__init__" = some (some (.ref (erI K x)))) && decide (PySem.W.typeIn K (.ref (erI K x)) = some (.type "function"))))))))))))))
structure ErrC (K : PySem.W.Frag) (file x : Str) (st : Stmt) (C fI : Addr) (fd : FuncData) : Prop where
  sup : Sup.SupC K file x st C fI fd
  ini : PySem.W.findIn K (.ref C) "__init__" = some (some (.ref fI))
  ity : PySem.W.typeIn K (.ref fI) = some (.type "function")
  bnd : Binds K fd ["self", "value"] []
  xf : XfC K C
theorem err_ok {K : PySem.W.Frag} {file x : Str} {st : Stmt} (h : errB K file x = true) (e : erW K x = some (("__init__" : Str), x ++ (".__init__" : Str), defArgs st, FuncBody.stmts (defBody st), defScope st, mainGlobals, builtinsNs))
    (hb : ∀ (T cc : Addr) (kV doc pm : Value) (an : Option Addr) (cdv ct : Value) (us its : List Value), us.length = 2 → its.length = 1 →
      ∃ k, bindArgs (PySem.W.ksFn "__init__" (x ++ (".__init__" : Str)) (defArgs st) (defBody st) (defScope st) (.ref T) kV doc pm an cdv ct cc) ⟨us, []⟩ = seqItems? (.ref T) >>= k ∧ k (some its.toArray) = pure ((["self", "value"] : List Str).zip us)) :
    ∃ fd, ErrC K file x st (He.ga K x) (erI K x) fd := by
  unfold errB at h
  obtain ⟨h1, h⟩ := He.ba h
  obtain ⟨h2, h⟩ := He.ba h
  obtain ⟨h3, h⟩ := He.ba h
  obtain ⟨h4, h⟩ := He.ba h
  obtain ⟨h5, h⟩ := He.ba h
  obtain ⟨h6, h⟩ := He.ba h
  obtain ⟨h7, h⟩ := He.ba h
  obtain ⟨h8, h⟩ := He.ba h
  obtain ⟨h9, h⟩ := He.ba h
  obtain ⟨h10, h⟩ := He.ba h
  obtain ⟨h11, h⟩ := He.ba h
  obtain ⟨h12, h⟩ := He.ba h
  obtain ⟨h13, h14⟩ := He.ba h
  unfold iniB at h2
  unfold erW at e
  cases q : K.lookup (erI K x) with
  | none => rw [q] at e; cases e
  | some o =>
    obtain ⟨oc, od, dt, osl⟩ := o
    rw [q] at e h2
    cases dt with
    | func fd =>
      obtain ⟨n1, n2, n3, n4, n5, n6, n7, n8, n9, n10, n11, n12, n13, n14, n15⟩ := fd
      have e2 : (some (n1, n2, n3, n4, n5, n6, n15) : ErW) = some (("__init__" : Str), x ++ (".__init__" : Str), defArgs st, FuncBody.stmts (defBody st), defScope st, mainGlobals, builtinsNs) := e
      simp only [Option.some.injEq, Prod.mk.injEq] at e2
      obtain ⟨r1, r2, r3, r4, r5, r6, r7⟩ := e2
      subst r1 r2 r3 r4 r5 r6 r7
      dsimp only at h2
      split at h2
      · rename_i n cc
        obtain ⟨k1, h2⟩ := He.ba h2
        obtain ⟨k2, h2⟩ := He.ba h2
        obtain ⟨k3, h2⟩ := He.ba h2
        obtain ⟨k4, h2⟩ := He.ba h2
        obtain ⟨k5, k6⟩ := He.ba h2
        obtain rfl := of_decide_eq_true k1
        split at k2
        · rename_i cl cld C' csl lcc
          obtain rfl := beq_iff_eq.mp k2
          split at k3
          · rename_i c0
            split at k3
            · rename_i ccl cdd vs ccs lc
              split at k3
              · rename_i f tf hvs
                obtain rfl := of_decide_eq_true k3
                have D := He.dflB_ok k5
                refine ⟨_, ⟨⟨⟨oexB_ok h1, of_decide_eq_true h4, of_decide_eq_true h5, of_decide_eq_true h6, h7⟩, ⟨oc, od, n8, n9, n10, n11, n12, _, cc, n14, osl, rfl, q, k4, ⟨ccl, cdd, vs, ccs, tf, lc, hvs⟩, cl, cld, csl, lcc⟩,
                  of_decide_eq_true h8, of_decide_eq_true h9, of_decide_eq_true h10, of_decide_eq_true h11, of_decide_eq_true h12⟩, of_decide_eq_true h13, of_decide_eq_true h14, ?_, xfB_ok h3⟩⟩
                rcases D with ⟨z, _⟩ | ⟨_, T, o, its, m, rfl, lT, oT, rT⟩
                · cases z
                · intro s us X hlen
                  rw [List.append_nil] at hlen ⊢
                  obtain ⟨k, e1, e2⟩ := hb T cc n9 n10 n11 n12 _ n14 us its hlen rT.length.symm
                  refine BindsTo.of_looks fun M => ?_
                  refine Eq.mpr (congrArg (fun z => PySem.W.Looks M s.heap z _) e1) ?_
                  exact looks_items X lT oT (.of_pure e2)
              · cases k3
            · cases k3
          · cases k3
        · cases k2
      · cases h2
    | _ => cases e
end My

namespace My
open PySem PySem.Spec PyProof.Rows L2
/-! ### an error kept behind its clause: asked by isinstance, its value read -/
/-- a caught error: its class, its dict -/
def ExK (cls : Value) (d : Option Addr) (a : Addr) : HO := .ext fun h => ∃ (oe : Obj) (vs : Array Value), h.get? a = some oe ∧ Zc cls d oe ∧ oe.data = .fields vs
section
variable {X : Cx} {pins : List (Addr × Obj)} {σ : L2.St} {H : Hp} {s : Shared} {a : Addr}
/-- what is not there in a state is none of what the state speaks of -/
theorem _root_.L2.Inv.newIn (I : Inv X pins σ H s) (hx : X.ex = []) (na : s.heap.get? a = none) : X.s_0.heap.get? a = none ∧ a ≠ X.env.locals ∧ (∀ x c, X.env.cells.lookup x = some c → a ≠ c) ∧ ∀ p ∈ X.pn ++ pins, a ≠ p.1 := by
  refine ⟨?_, ?_, ?_, ?_⟩
  · cases e : X.s_0.heap.get? a with
    | none => rfl
    | some o =>
      obtain ⟨o', e'⟩ := I.base.there a o e (by rw [hx]; exact fun z => nomatch z)
      rw [na] at e'
      cases e'
  · obtain ⟨m, ⟨o, es, ep, ho, _⟩, _⟩ := I.loc
    exact fun e => by rw [← e, na] at ho; cases ho
  · intro x c e z
    obtain ⟨v, o, ho, _⟩ := I.cell x c e
    rw [← z, na] at ho
    cases ho
  · intro p hp z
    have ho := (I.pin p hp).1
    rw [← z, na] at ho
    cases ho
/-- an object that is there is from now on told of -/
theorem _root_.L2.Inv.track {cls : Value} {d : Option Addr} {oe : Obj} {vs : Array Value} (I : Inv X pins σ H s) (ha : s.heap.get? a = some oe) (z : Zc cls d oe) (hd : oe.data = .fields vs) (na : H a = none) (n0 : X.s_0.heap.get? a = none) (nL : a ≠ X.env.locals)
    (nC : ∀ x c, X.env.cells.lookup x = some c → a ≠ c) (nP : ∀ p ∈ X.pn ++ pins, a ≠ p.1) : Inv X pins σ (upd H a (ExK cls d a)) s := by
  have ne : ∀ {b : Addr} {o : HO}, H b = some o → b ≠ a := fun {b o} e q => by rw [q, na] at e; cases e
  refine ⟨I.ok, I.os, I.bare, ⟨I.base.keep, I.base.slot, fun b o e n hx => ?_, I.base.there, fun b xs e => ?_, fun b o u e => ?_, fun b ps e => ?_⟩, I.loc, I.cell, ?_, fun x c e => ?_, fun p hp => ?_, fun b u e => ?_, I.len⟩
  · rw [upd_ne fun q => by rw [q, n0] at e; cases e]
    exact I.base.free b o e n hx
  · have q := I.base.tups b xs e
    rw [upd_ne (ne q)]
    exact q
  · have q := I.base.frzs b o u e
    rw [upd_ne (ne q)]
    exact q
  · obtain ⟨m, q⟩ := I.base.tbls b ps e
    exact ⟨m, by rw [upd_ne (ne q)]; exact q⟩
  · rw [upd_ne fun q => nL q.symm]
    exact I.free
  · rw [upd_ne fun q => nC x c e q.symm]
    exact I.freeC x c e
  · obtain ⟨e, n, r⟩ := I.pin p hp
    exact ⟨e, by rw [upd_ne fun q => nP p hp q.symm]; exact n, r⟩
  · by_cases hb : b = a
    · subst hb
      rw [upd_same] at e
      cases e
      exact ⟨⟨oe, vs, ha, z, hd⟩, ⟨oe, ha⟩, fun _ _ ⟨o, v, q, r⟩ k => ⟨o, v, k o q, r⟩⟩
    · rw [upd_ne hb] at e
      exact (I.hok b u e).stay (fun c v _ q => q) (fun c q => by rw [upd_ne (ne q)]; exact q) fun c xs q => by rw [upd_ne (ne q)]; exact q
end
/-- as wManyAs, the error told of behind the clause -/
def wKeepAs (K : PySem.W.Frag) (i : Nat) (Wout : WX) (D : Ends) : List (Value × (Addr → Value → Option Addr → TS)) → WX
  | [] => Wout
  | (c, ts) :: r => fun cls d σ H => ∃ b, PySem.W.exmOne K cls c = some b ∧ (b = true → ∀ a, H a = none → ts a cls d { nx := fun σ' H' => D.nx (σ'.set i none) (upd H' a (ExK cls d a)), rt := D.rt, bk := fun σ' H' => D.bk (σ'.set i none) H', ct := fun σ' H' => D.ct (σ'.set i none) H' } (σ.set i (some (.ref a))) H) ∧
    (b = false → wKeepAs K i Wout D r cls d σ H)
section
variable {X : Cx} {n : Str} {i : Nat} {body : List Stmt} {h₀ : ExceptHandler} {hds : List ExceptHandler} {l : List (Value × (Addr → Value → Option Addr → TS))} {pos : Pos} {tb : WX → TS} {Wout : WX}
theorem ps_try_keep (hx0 : X.ex = []) (hs : X.stack = X.env :: X.outer) (hf : X.env.frame = some X.env.locals) (hN : X.N.Nodup) (hi : X.N[i]? = some n) (hln : X.env.kindOf n = some .local) (tk : Takes X Wout)
    (hb : ∀ (W : WX) (pn : List (Addr × Obj)) (xe : Value → Shared → Prop), Takes (X.tr pn xe) W → PassesOwn (model X.prog X.w) X.A X.env xe → PSs (X.tr pn xe) body (tb W))
    (hh : HdsAs X n (h₀ :: hds) l) : PS X (.Try body (h₀ :: hds) [] [] pos) (fun D σ H => tb (wKeepAs X.K i Wout D l) D σ H) := by
  refine ⟨fun pins s σ H D I h => ?_⟩
  have ok := I.ok
  have hfr : X.A.frames = some (X.env :: X.outer) := by rw [ok.frames, hs]
  have hloc : Loc X.env.scope n := .inl hln
  refine wpAny_Try_except ?_
  refine wpAny_mono ((hb (wKeepAs X.K i Wout D l) (X.pn ++ pins) (fun e s₁ => wpAny (model X.prog X.w) X.A (noteFrame e X.env) (fun _ s₂ => wpAny (model X.prog X.w) X.A (setFlight e none) (fun _ s₃ =>
    wpAny (model X.prog X.w) X.A (handleBy e X.env (h₀ :: hds)) (SP X pins D) X.xe s₃) X.xe s₂) X.xe s₁) (fun u s' xx => ?_) PassesOwn.looking).run [] s σ H D (I.toTry _) h) (fun f s1 hsp => ?_) (fun e s1 he => he)
  · -- the catch
    obtain ⟨a, B, sI, pins', σ', H', cls, d, rfl, J', nb, up, sky, na, os, ag, w⟩ := xx
    have J : Inv X pins σ' H' sI := J'.ofTry ok
    have sky' : Sky B (X.env :: X.outer) a (Zc cls d) X.env.locals s'.heap := by rw [← hs]; exact sky
    show wpAny (model X.prog X.w) X.A (noteFrame (.ref a) X.env) _ _ _
    refine Sky.land Zc.steady hfr hf sky' fun h3 fl3 up3 => ?_
    have J3 : Inv X pins σ' H' { s' with heap := h3 } := J.landed nb fl3.1 (up.trans up3) os ag
    obtain ⟨oe3, vs3, he3, hz3, hd3⟩ := fl3.there
    have notFr : ∀ {h : Heap} {o : Obj} {vs : Array Value}, h.FunFrames B (X.env :: X.outer) → h.get? a = some o → o.data = .fields vs → a ∉ frs (X.env :: X.outer) := fun {h o vs} ff e dd hm => by
      obtain ⟨_, o', e', hnf⟩ := ff.mem hm
      rw [e] at e'; cases e'
      exact hnf _ dd
    have nfr := notFr fl3.2.2.1 he3 hd3
    have nL : a ≠ X.env.locals := fun z => nfr (List.mem_filterMap.mpr ⟨X.env, List.mem_cons_self, by rw [hf, z]⟩)
    have nF : a ∉ X.fs := fun hm => by
      obtain ⟨e, he, q⟩ := List.mem_filterMap.mp hm
      exact nfr (List.mem_filterMap.mpr ⟨e, List.mem_cons_of_mem _ he, q⟩)
    have S3 := J3.suite he3 hd3 na nL nF
    have new := Inv.newIn J hx0 (a := a) (by
      cases e : sI.heap.get? a with
      | none => rfl
      | some o =>
        have := nb a o e (by rw [hs]; exact nfr)
        rw [fl3.2.1] at this
        cases this)
    have go : ∀ {hds' : List ExceptHandler} {l' : List (Value × (Addr → Value → Option Addr → TS))}, HdsAs X n hds' l' → wKeepAs X.K i Wout D l' cls d σ' H' →
        wpAny (model X.prog X.w) X.A (handleBy (.ref a) X.env hds') (SP X pins D) X.xe { s' with heap := h3 } := by
      intro hds' l' hk
      induction hk with
      | nil =>
        intro w
        refine wpAny_handleBy_nil ?_
        obtain ⟨k1, k2, k3, oe, vs, T, oT, ts', he, hz, hd, h1, hr⟩ := id fl3
        unfold PySem.passOn
        refine wpAny_bind (wpAny_field he hd h1 ?_)
        rw [if_neg (show ¬ ((Value.ref T == Value.none) = true) from by simp)]
        have fin : wpAny (model X.prog X.w) X.A (setFlight (.ref a) X.env.frame) (fun _ s4 => wpAny (model X.prog X.w) X.A (throw (.ref a) : Sem Flow) (SP X pins D) X.xe s4) X.xe { s' with heap := h3 } := by
          rw [hf]
          refine HandSPX.setFlight_upZ fl3 fun h4 hh4 up4 => wpAny_throw (tk _ _ ?_)
          exact ⟨a, B, sI, pins, σ', H', cls, d, rfl, J, nb, (up.trans up3).trans up4, .inr (.inr (by rw [hs]; exact hh4)), na, os, ag, w⟩
        first
          | exact wpAny_bind (wpAny_pure (wpAny_bind fin))
          | exact wpAny_bind fin
      | @cons x c ts b₀ suite np pos' hds2 l2 hc hsu r ih =>
        intro w
        obtain ⟨b, hb1, hyes, hno⟩ := w
        refine wpAny_handleBy_cons (codeAny_handlers_test ?_) (by intro q; cases q)
        have LT : PySem.W.Looks (model X.prog X.w) h3 (typeOf (.ref a)) cls := fun A Q E s k q => wpAny_typeOf_ref (k _ _ he3) (by rw [hz3.1]; exact q)
        have LM := PySem.W.exm_one (M := model X.prog X.w) (J3.kIn) LT hb1
        have test : ∀ {Q : Value → Shared → Prop} {E : Value → Shared → Prop}, Q c { s' with heap := h3 } → wpAny (model X.prog X.w) (X.A.mark (some (.ref a))) (eval (.Name x np) X.env) Q E { s' with heap := h3 } := fun {Q E} q => by
          obtain ⟨hg, hdbg, hm | ⟨hm, hv, hnn⟩⟩ := hc
          · exact ld_glob (X := X.suite a ((a, oe3) :: (X.pn ++ pins))) S3 hg hm q hdbg
          · exact ld_blt (X := X.suite a ((a, oe3) :: (X.pn ++ pins))) S3 hg hm hv q hnn hdbg
        refine test (LM.here ?_)
        cases b with
        | true =>
          refine codeAny_handlers_suite_as ?_
          refine HandSPX.lands_againZ fl3 fun h4 fl4 up4 => ?_
          have J4 : Inv X pins σ' H' { s' with heap := h4 } := J.landed nb fl4.1 ((up.trans up3).trans up4) os ag
          obtain ⟨oe4, vs4, he4, hz4, hd4⟩ := fl4.there
          have S4 := J4.suite he4 hd4 na nL nF
          refine store_ok (X := X.suite a ((a, oe4) :: (X.pn ++ pins))) (v := .ref a) S4 hN hi hloc rfl (fun s5 S5 => ?_) (.inr hln)
          refine wpAny_mono ((hsu a oe4 cls d (X.pn ++ pins) hz4 ⟨_, hd4⟩).run [] s5 _ H' _ S5 (hyes rfl a na)) (fun f s6 hsp => ?_) (fun _ _ z => False.elim z)
          have end_ : ∀ {σ6 : L2.St} {H6 : Hp} {Q : Shared → Prop}, Inv (X.suite a ((a, oe4) :: (X.pn ++ pins))) [] σ6 H6 s6 → (∀ s7, Inv X pins (σ6.set i none) H6 s7 → Q s7) →
              wpAny (model X.prog X.w) X.A (do bindName X.env n .none; unbindBehindTheSuite X.env n pos') (fun _ s7 => Q s7) X.xe s6 := fun {σ6 H6 Q} S6 hq => gone_ok (S6.unsuite ok) hN hi hln hq
          cases f with
          | next =>
            obtain ⟨σ6, H6, S6, q6⟩ := hsp
            obtain ⟨ha6, na6, _, _, _⟩ := S6.pin (a, oe4) (List.mem_append.mpr (.inl List.mem_cons_self))
            exact gone_ok (Inv.track (S6.unsuite ok) ha6 hz4 hd4 na6 new.1 new.2.1 new.2.2.1 new.2.2.2) hN hi hln fun s7 J7 => ⟨_, _, J7, q6⟩
          | brk =>
            obtain ⟨σ6, H6, S6, q6⟩ := hsp
            exact end_ S6 fun s7 J7 => ⟨_, _, J7, q6⟩
          | cont =>
            obtain ⟨σ6, H6, S6, q6⟩ := hsp
            exact end_ S6 fun s7 J7 => ⟨_, _, J7, q6⟩
          | ret u =>
            obtain ⟨v6, σ6, H6, S6, r6, q6⟩ := hsp
            exact end_ S6 fun s7 J7 => ⟨_, _, _, J7, r6, q6⟩
        | false =>
          show wpAny _ X.A (handleBy (.ref a) X.env hds2) _ _ _
          exact ih (hno rfl)
    exact go hh w
  · cases f with
    | next =>
      obtain ⟨σ', H', J', q⟩ := hsp
      exact wpAny_execs_nil ⟨σ', H', J'.ofTry ok, q⟩
    | brk =>
      obtain ⟨σ', H', J', q⟩ := hsp
      exact ⟨σ', H', J'.ofTry ok, q⟩
    | cont =>
      obtain ⟨σ', H', J', q⟩ := hsp
      exact ⟨σ', H', J'.ofTry ok, q⟩
    | ret u =>
      obtain ⟨v, σ', H', J', r, q⟩ := hsp
      exact ⟨v, σ', H', J'.ofTry ok, r, q⟩
end
/-! ### isinstance of it, its value -/
/-- what isinstance asks of the class of an error -/
structure ExcI (K : PySem.W.Frag) (D : Addr) : Prop where
  xf : XfC K D
  ha : PySem.W.findIn K (.ref D) "__class__" = some (some (.builtin "object.__class__"))
  hn : PySem.W.specialIn K (.builtin "object.__class__") "__get__" = some (some (.builtin "getset_descriptor.__get__"))
  ht : PySem.W.takesIn K (.builtin "object.__class__") = some true
  hm : PySem.W.mroIn K D (.type "object") = some true
/-- its class by name, the error with a dict of its own -/
theorem cls_named {prog : Program} {w : World} {A : Around} {F : Value → Shared → Prop} {st : Shared} {K : PySem.W.Frag} {a C : Addr} {oe od : Obj} {G : Option Value → Shared → Prop} (c : ExcI K C) (hK : K.In st.heap) (J : PySem.W.InstAt st.heap a oe C (some od))
    (g : G (some (.ref C)) { st with toks := st.toks + 1 }) : wpAny (model prog w) A (getAttr? (.ref a) "__class__") G F st := by
  have found : PySem.W.findObj K C (some od) "__class__" = some (.bind (.builtin "getset_descriptor.__get__") (.builtin "object.__class__")) := by
    refine PySem.W.findObj_data ?_ c.ha c.hn c.ht
    obtain ⟨kd, hk, _⟩ := PySem.W.any_some c.xf.hdC
    rw [hk]
    rfl
  obtain ⟨hh, gs, dr, tk, o5⟩ := st
  have isC := J.type (M := model prog w)
  have isGa := PySem.W.looks_findIn (M := model prog w) hK c.xf.ga
  have isGg := PySem.W.looks_findIn (M := model prog w) hK c.xf.gg
  have isIt := PySem.W.looks_find (M := model prog w) hK J found
  have isSub : PySem.W.Looks (model prog w) hh (isInstance (.ref a) (.type "BaseException")) true := isC.andThen (PySem.W.looks_subIn hK c.xf.exC)
  have n1 : (Value.builtin "BaseException.__getattribute__" == Value.builtin "object.__getattribute__") = false := by decide +kernel
  have n2 : (onTheHeap (Value.ref C) && Value.builtin "BaseException.__getattribute__" == Value.builtin "object.__getattribute__") = false := by rw [n1]; exact Bool.and_false _
  have n3 : (false && onTheHeap (Value.builtin "BaseException.__getattribute__")) = false := Bool.false_and _
  unfold getAttr? getAttrBy? getAttrBy
  refine wpAny_bind (wpAny_mkText (wpAny_bind (wpAny_attempt (wpAny_holding (wpAny_bind (isC.at (wpAny_bind (isGa.at ?_))))))))
  change wpAny _ _ (if (onTheHeap (Value.ref C) && Value.builtin "BaseException.__getattribute__" == Value.builtin "object.__getattribute__") = true then _ else _) _ _ _
  rw [n2]
  rw [if_neg Bool.false_ne_true]
  unfold getAttrByItsOwn hookBefore
  refine wpAny_bind ?_
  have n4 : onTheHeap (Value.ref C) = true := by rfl
  rw [if_pos n4]
  refine isGg.at (wpAny_bind (wpAny_attempt (wpAny_holding ?_)))
  unfold callGetattribute
  rw [n3]
  rw [if_neg Bool.false_ne_true]
  unfold boundAndCalled
  rw [PySem.F.excAttr_ValueError.ga.bind (.ref a)]
  refine wpAny_bind (wpAny_pure ?_)
  change wpAny _ _ (call (.builtin "BaseException.__getattribute__") [.ref a, .str "__class__" tk]) _ _ _
  refine wpAny_call (codeAny_call_builtin PySem.F.excAttr_ValueError.ga.plain PySem.F.entry_bexc_ga ?_)
  refine @PySem.W.check_slot (model prog w) _ _ ⟨hh, gs, dr, tk + 1, o5⟩ "BaseException.__getattribute__" "BaseException" "__getattribute__" (.ref a) [.str "__class__" tk] [] _ (by decide +kernel) (by decide +kernel) isSub (PySem.F.args_bexc_ga _ _) ?_
  unfold Builtin.«object.__getattribute__»
  refine wpAny_bind (wpAny_of_eq (a := ((Value.ref a : Value), [Value.str "__class__" tk])) (by first | rfl | (simp only [slotArgs]; rfl)) (wpAny_bind (wpAny_pure (wpAny_bind (isC.at (wpAny_bind (isIt.at ?_)))))))
  change wpAny _ _ (holding [Value.builtin "object.__class__"] (call (.builtin "getset_descriptor.__get__") [.builtin "object.__class__", .ref a, .ref C]) >>= ret) _ _ _
  refine wpAny_bind (wpAny_holding (wpAny_call (PySem.W.class_get (s := ⟨hh, gs, dr, tk + 1, o5⟩) (ox := oe) (od := some od) hK J c.hm (wpAny_pure ?_))))
  change wpAny _ _ (handedOut (.ref C)) _ _ _
  rw [PySem.W.handedOut_of (v := .ref C) rfl]
  first
    | exact wpAny_pure g
    | exact wpAny_pure (wpAny_pure g)
    | exact wpAny_pure (wpAny_bind (wpAny_pure (wpAny_pure g)))
/-- the error is an object of its class, its dict there -/
theorem kit_err {K : PySem.W.Frag} {a C : Addr} {oe od : Obj} (c : ExcI K C) : PySem.W.KitX K (.ref a) (.ref C) (fun h => PySem.W.InstAt h a oe C (some od)) where
  ty := fun _ _ _ J => J.type
  it := fun _ h hK _ => by
    obtain ⟨kd, hk, _⟩ := PySem.W.any_some c.xf.hdC
    unfold PySem.W.clsIn at hk
    split at hk
    · rename_i e1 e2 e3 e4 there
      intro B R' F' st keep goal
      unfold isType loadHead
      exact wpAny_bind (wpAny_loadPart (keep _ _ (hK _ _ there)) (wpAny_pure goal))
    · cases hk
  ne := fun h t dd is m sl hK ht => by
    obtain ⟨kd, hk, _⟩ := PySem.W.any_some c.xf.hdC
    cases q : (Value.ref C == Value.ref t) with
    | false => rfl
    | true =>
      obtain rfl : C = t := Value.ref.inj (beq_iff_eq.mp q)
      unfold PySem.W.clsIn at hk
      split at hk
      · rename_i e1 e2 e3 e4 there
        have z := (hK _ _ there).symm.trans ht
        cases z
      · cases hk
  ca := fun hK J g => cls_named c hK J g
/-- isinstance(x, c): x a kept error, or any other thing as before -/
def rIsiE (K : PySem.W.Frag) : List V → Hp → VK → Prop := fun xs H Q => rIsi K xs H Q ∨ ∃ (a C dd : Addr) (fs : List (Str × V)) (c : V) (u : Value) (b : Bool), xs = [.ref a, c] ∧ H a = some (ExK (.ref C) (some dd) a) ∧ H dd = some (.xd fs) ∧ ExcI K C ∧ ClsV c u ∧ PySem.W.kitOne K (.ref C) u = some b ∧ Q (.bl b) H
section
variable {X : Cx}
theorem inst_kept {pins : List (Addr × Obj)} {σ : L2.St} {H : Hp} {s : Shared} {a C dd : Addr} {fs : List (Str × V)} (I : Inv X pins σ H s) (ha : H a = some (ExK (.ref C) (some dd) a)) (hd : H dd = some (.xd fs)) :
    ∃ (oe od : Obj) (mA : Str → Option Value), PySem.W.InstAt s.heap a oe C (some od) ∧ s.heap.get? dd = some od ∧ (∀ n, PySem.W.lookIn n od = some (mA n)) ∧ ∀ f, RelO (fs.lookup f) (mA f) := by
  obtain ⟨⟨oe, vs, he, hz, hv⟩, _⟩ := I.hok a _ ha
  obtain ⟨mA, hns, hr⟩ := (show ObjOk X.prog X.w H s.heap dd (.xd fs) from I.hok dd _ hd)
  obtain ⟨od, ho, hl⟩ := lookIn_ns hns
  exact ⟨oe, od, mA, ⟨he, hz.1, by unfold PySem.W.notCls; rw [hv] <;> rfl, by rw [hz.2]; exact ho⟩, ho, hl, hr⟩
theorem call_isiE : CallR X (.builtin "isinstance") (rIsiE X.K) := by
  intro pins s σ H xs us Q I r h
  rcases h with h | ⟨a, C, dd, fs, c, u, b, rfl, ha, hd, hc, hu, hk, q⟩
  · exact call_isi pins s σ H xs us Q I r h
  · obtain ⟨oe, od, mA, J, _⟩ := inst_kept I ha hd
    obtain ⟨u1, u2, rfl, r1, r2⟩ := r.two
    obtain rfl : u1 = Value.ref a := r1
    obtain rfl := hu.eq r2
    exact PySem.W.kia_one (kit_err hc) I.kIn J hk (fun z => nomatch z) fun tk => ⟨.bl b, H, I.tok tk, rfl, q⟩
theorem k_isiE (K : PySem.W.Frag) (h : X.K = K) : CallR X (.builtin "isinstance") (rIsiE K) := by subst h; exact call_isiE
/-- err.f of a kept error -/
def tXfK (K : PySem.W.Frag) (f : Str) (te : TE) : TE := fun σ H Q => te σ H fun x H1 => ∃ (a C dd : Addr) (fs : List (Str × V)) (v : V), x = .ref a ∧ H1 a = some (ExK (.ref C) (some dd) a) ∧ H1 dd = some (.xd fs) ∧ XfC K C ∧ PySem.W.findIn K (.ref C) f = some none ∧ fs.lookup f = some v ∧ Q v H1
theorem pe_xfK {e : Expr} {te : TE} {pos : Pos} {n : Str} (he : PE X e te) (hb : attributeBase e n X.env (eval e X.env) = eval e X.env := by rfl) : PE X (.Attribute e n pos) (tXfK X.K n te) := by
  refine ⟨fun pins s σ H Q I h => ?_⟩
  refine attr_of hb (thn (he.run pins s σ H _ I h) fun u s1 hh => ?_)
  obtain ⟨x, H1, I1, rx, a, C, dd, fs, v, ex, ha, hd, T, hno, l, q⟩ := hh
  subst ex
  obtain rfl : u = Value.ref a := rx
  obtain ⟨oe, od, mA, J, ho, hl, hr⟩ := inst_kept I1 ha hd
  obtain ⟨u, hu, ru⟩ := RelO.some_of (v := v) (o := mA n) (by rw [← l]; exact hr n)
  exact HandSPX.exc_get I1.kIn J T.ga T.gg T.exC (PySem.W.findObj_own T.hdC hno rfl (by rw [hl, hu])) (handed_of ru) ⟨v, H1, I1.tok _, ru, q⟩
end
end My

namespace My
open PySem PySem.Spec PyProof.Rows L2
/-! ### isinstance of an error within its clause; list.count of flat values -/
def rIsiA (K : PySem.W.Frag) (a : Addr) (cls : Value) (d : Option Addr) : List V → Hp → VK → Prop := fun xs H Q => ∃ (C dd : Addr) (fs : List (Str × V)) (c : V) (u : Value) (b : Bool), xs = [.ref a, c] ∧ cls = .ref C ∧ d = some dd ∧ H dd = some (.xd fs) ∧ ExcI K C ∧ ClsV c u ∧ PySem.W.kitOne K (.ref C) u = some b ∧ Q (.bl b) H
theorem k_isiA {X : Cx} {a : Addr} {oe : Obj} {cls : Value} {d : Option Addr} {pn : List (Addr × Obj)} (K : PySem.W.Frag) (h : X.K = K) (hz : Zc cls d oe) (hf : ∃ vs, oe.data = .fields vs) : CallR (X.suite a ((a, oe) :: pn)) (.builtin "isinstance") (rIsiA K a cls d) := by
  subst h
  intro pins s σ H xs us Q I r hh
  obtain ⟨C, dd, fs, c, u, b, rfl, ec, ed, hd, hc, hu, hk, q⟩ := hh
  subst ec
  subst ed
  obtain ⟨ha, _⟩ := I.pin (a, oe) (List.mem_append_left _ List.mem_cons_self)
  obtain ⟨vs, hv⟩ := hf
  obtain ⟨mA, hns, hr⟩ := (show ObjOk X.prog X.w H s.heap dd (.xd fs) from I.hok dd _ hd)
  obtain ⟨od, ho, hl⟩ := lookIn_ns hns
  have J : PySem.W.InstAt s.heap a oe C (some od) := ⟨ha, hz.1, by unfold PySem.W.notCls; rw [hv] <;> rfl, by rw [hz.2]; exact ho⟩
  obtain ⟨u1, u2, rfl, r1, r2⟩ := r.two
  obtain rfl : u1 = Value.ref a := r1
  obtain rfl := hu.eq r2
  exact PySem.W.kia_one (kit_err hc) I.kIn J hk (fun z => nomatch z) fun tk => ⟨.bl b, H, I.tok tk, rfl, q⟩
theorem countU {y : V} : ∀ {ys : List V} {us : List Value}, Vals ys us → ys.all flatV = true → us.countP (eqU y) = ys.countP fun z => eqV z y
  | _, _, .nil, _ => rfl
  | _, _, .cons (a := z) (b := u) r rest, h => by
    rw [List.all_cons, Bool.and_eq_true] at h
    rw [List.countP_cons, List.countP_cons, countU rest h.2, eqU_of r h.1]
def rCntF (K : PySem.W.Frag) : V → List V → Hp → VK → Prop := fun x xs H Q => ∃ (a : Addr) (ys : List V) (y : V), x = .ref a ∧ xs = [y] ∧ SqL K H a ys ∧ flatV y = true ∧ ys.all flatV = true ∧ Q (.int ((ys.countP fun z => eqV z y : Nat) : Int)) H
theorem k_countF {X : Cx} (K : PySem.W.Frag) (h : X.K = K) : MtR X "list.count" (rCntF K) := by
  subst h
  intro pins s σ H x xs v us Q I rx rxs h
  obtain ⟨a, ys, y, rfl, rfl, hs, fy, fys, q⟩ := h
  cases rx
  cases rxs with
  | cons ry rt =>
    rename_i uy ut
    cases rt
    obtain ⟨its, rv, ⟨⟨cls, dd, data, sl⟩, n, ho, hc, hdn, hd⟩, hlen⟩ := I.list hs
    simp only at hc hd
    subst hc hd
    refine call_meets PySem.F.slot_list_count ⟨_, ho, rfl⟩ PySem.F.entry_list_count (PySem.F.args_list_count_2 _ _)
      (SeqAt.list_countAt a its.toArray n dd sl uy (eqU y)) ⟨ho, fun u' hu' => mem_eqAt ry fy rv fys u' (by simpa using hu'), ?_⟩
    have ec : its.toArray.toList.countP (eqU y) = ys.countP fun z => eqV z y := countU rv fys
    refine ⟨.int ((ys.countP fun z => eqV z y : Nat) : Int), H, I.tok _, ⟨s.toks, ?_⟩, q⟩
    show Value.int ((its.toArray.toList.countP (eqU y) : Nat) : Int) s.toks = _
    rw [ec]
/-- a method of a builtin thing, with the written part named (within a clause or a comprehension) -/
theorem k_bm {X : Cx} {o e : Expr} {es : List Expr} {to : TE} {t : TA} {name : Str} {apos cpos : Pos} {T id : String} {r : V → List V → Hp → VK → Prop} (K : PySem.W.Frag) (h : X.K = K)
    (pa : PlainAttrs T) (slot : Slot T name id) (hty : typeOf (.builtin id) = pure (.type "method_descriptor")) (hm : MtR X id r) (ho : PE X o to) (ha : PA X (e :: es) t)
    (hbase : attributeBase o name X.env (eval o X.env) = eval o X.env := by rfl)
    (hfew : ((backTo cpos (starEach (e :: es) X.env)).all (fun x => !x.1) && (backToKw cpos (keywordEach [] X.env)).all (fun x => x.1.isSome)
      && decide ((e :: es).length + ([] : List Keyword).length + (if ([] : List Keyword).isEmpty then 0 else 1) < 30)) = true := by rfl)
    (hline : (apos.endLine == cpos.line) = true := by rfl) (hs : starEach (e :: es) X.env = (false, eval e X.env) :: starEach es X.env := by rfl) (hplain : (backTo cpos (starEach es X.env)).any (·.1) = false := by rfl) :
    PE X (.Call (.Attribute o name apos) (e :: es) [] cpos) (tBM K T r to t) := by
  subst h
  exact pe_bm pa slot hty hm ho ha hbase hfew hline hs hplain
end My

namespace My
open PySem PySem.Spec PyProof.Rows L2
theorem nil_binds {K : PySem.W.Frag} {fd : FuncData} {ps : List Str} (h : ∃ ds, Vals [] ds ∧ Binds K fd ps ds) : Binds K fd ps [] := by
  obtain ⟨ds, v, b⟩ := h
  cases v
  exact b
def top (i : Nat) : Stmt := PySem.Challenge.pw_wholesound_k63_shapes_in_spans.main.body.getD i (.Pass ⟨0, 0, 0, 0⟩)
abbrev s_is_whole : Stmt := top 6
abbrev N_is_whole : List Str := ["value"]
theorem sc_is_whole : FnScope N_is_whole ["value"] (defScope s_is_whole) := ⟨rfl, rfl, rfl, by decide +kernel, rfl, by decide +kernel, by decide +kernel⟩
abbrev s_is_between : Stmt := top 7
abbrev N_is_between : List Str := ["value", "low", "high"]
theorem sc_is_between : FnScope N_is_between ["value", "low", "high"] (defScope s_is_between) := ⟨rfl, rfl, rfl, by decide +kernel, rfl, by decide +kernel, by decide +kernel⟩
abbrev s_check_number : Stmt := top 9
abbrev N_check_number : List Str := ["number", "low", "high"]
theorem sc_check_number : FnScope N_check_number ["number", "low", "high"] (defScope s_check_number) := ⟨rfl, rfl, rfl, by decide +kernel, rfl, by decide +kernel, by decide +kernel⟩
abbrev s_sum_of : Stmt := top 15
abbrev N_sum_of : List Str := ["check"]
theorem sc_sum_of : FnScope N_sum_of ["check"] (defScope s_sum_of) := ⟨rfl, rfl, rfl, by decide +kernel, rfl, by decide +kernel, by decide +kernel⟩
abbrev s_check_check : Stmt := top 16
abbrev N_check_check : List Str := ["check"]
theorem sc_check_check : FnScope N_check_check ["check"] (defScope s_check_check) := ⟨rfl, rfl, rfl, by decide +kernel, rfl, by decide +kernel, by decide +kernel⟩
abbrev s_are_places : Stmt := top 17
abbrev N_are_places : List Str := ["value", "one", "other", "place"]
theorem sc_are_places : FnScope N_are_places ["value"] (defScope s_are_places) := ⟨rfl, rfl, rfl, by decide +kernel, rfl, by decide +kernel, by decide +kernel⟩
abbrev s_check_places : Stmt := top 18
abbrev N_check_places : List Str := ["places"]
theorem sc_check_places : FnScope N_check_places ["places"] (defScope s_check_places) := ⟨rfl, rfl, rfl, by decide +kernel, rfl, by decide +kernel, by decide +kernel⟩
abbrev s_shifted : Stmt := top 19
abbrev N_shifted : List Str := ["check", "one"]
theorem sc_shifted : FnScope N_shifted ["check", "one"] (defScope s_shifted) := ⟨rfl, rfl, rfl, by decide +kernel, rfl, by decide +kernel, by decide +kernel⟩
abbrev s_rest_of : Stmt := top 20
abbrev N_rest_of : List Str := ["check", "bits", "found", "sign"]
theorem sc_rest_of : FnScope N_rest_of ["check", "bits"] (defScope s_rest_of) := ⟨rfl, rfl, rfl, by decide +kernel, rfl, by decide +kernel, by decide +kernel⟩
abbrev s_rest_times : Stmt := top 21
abbrev N_rest_times : List Str := ["check", "one", "other", "found", "place"]
theorem sc_rest_times : FnScope N_rest_times ["check", "one", "other"] (defScope s_rest_times) := ⟨rfl, rfl, rfl, by decide +kernel, rfl, by decide +kernel, by decide +kernel⟩
abbrev s_power_of : Stmt := top 22
abbrev N_power_of : List Str := ["check", "many", "found", "base", "left"]
theorem sc_power_of : FnScope N_power_of ["check", "many"] (defScope s_power_of) := ⟨rfl, rfl, rfl, by decide +kernel, rfl, by decide +kernel, by decide +kernel⟩
abbrev s_sum_at : Stmt := top 23
abbrev N_sum_at : List Str := ["check", "places", "found", "place"]
theorem sc_sum_at : FnScope N_sum_at ["check", "places"] (defScope s_sum_at) := ⟨rfl, rfl, rfl, by decide +kernel, rfl, by decide +kernel, by decide +kernel⟩
abbrev s_unseen : Stmt := top 24
abbrev N_unseen : List Str := ["check", "places"]
theorem sc_unseen : FnScope N_unseen ["check", "places"] (defScope s_unseen) := ⟨rfl, rfl, rfl, by decide +kernel, rfl, by decide +kernel, by decide +kernel⟩
abbrev s_ones_in : Stmt := top 25
abbrev N_ones_in : List Str := ["number", "place"]
theorem sc_ones_in : FnScope N_ones_in ["number"] (defScope s_ones_in) := ⟨rfl, rfl, rfl, by decide +kernel, rfl, by decide +kernel, by decide +kernel⟩
abbrev s_shapes_of : Stmt := top 26
abbrev N_shapes_of : List Str := ["check", "span"]
theorem sc_shapes_of : FnScope N_shapes_of ["check", "span"] (defScope s_shapes_of) := ⟨rfl, rfl, rfl, by decide +kernel, rfl, by decide +kernel, by decide +kernel⟩
abbrev s_how_many_shapes : Stmt := top 27
abbrev N_how_many_shapes : List Str := ["check", "span"]
theorem sc_how_many_shapes : FnScope N_how_many_shapes ["check", "span"] (defScope s_how_many_shapes) := ⟨rfl, rfl, rfl, by decide +kernel, rfl, by decide +kernel, by decide +kernel⟩
abbrev s_shape_at : Stmt := top 28
abbrev N_shape_at : List Str := ["check", "span", "number", "found", "place", "more", "whole"]
theorem sc_shape_at : FnScope N_shape_at ["check", "span", "number"] (defScope s_shape_at) := ⟨rfl, rfl, rfl, by decide +kernel, rfl, by decide +kernel, by decide +kernel⟩
abbrev s_shape_number : Stmt := top 29
abbrev N_shape_number : List Str := ["check", "places", "high", "place"]
theorem sc_shape_number : FnScope N_shape_number ["check", "places"] (defScope s_shape_number) := ⟨rfl, rfl, rfl, by decide +kernel, rfl, by decide +kernel, by decide +kernel⟩
abbrev s_law_hash : Stmt := top 31
abbrev N_law_hash : List Str := ["_law_seed", "_law_index", "_law_mixed"]
theorem sc_law_hash : FnScope N_law_hash ["_law_seed", "_law_index"] (defScope s_law_hash) := ⟨rfl, rfl, rfl, by decide +kernel, rfl, by decide +kernel, by decide +kernel⟩
abbrev s_law_random : Stmt := top 32
abbrev N_law_random : List Str := ["_law_generator_here", "_law_bound", "_law_drawn_here", "_law_turn"]
theorem sc_law_random : FnScope N_law_random ["_law_generator_here", "_law_bound"] (defScope s_law_random) := ⟨rfl, rfl, rfl, by decide +kernel, rfl, by decide +kernel, by decide +kernel⟩
abbrev s_law_cell : Stmt := top 33
abbrev N_law_cell : List Str := ["_law_script", "_law_index"]
theorem sc_law_cell : FnScope N_law_cell ["_law_script", "_law_index"] (defScope s_law_cell) := ⟨rfl, rfl, rfl, by decide +kernel, rfl, by decide +kernel, by decide +kernel⟩
abbrev s_law_generator : Stmt := top 34
abbrev N_law_generator : List Str := ["_law_script", "_law_index", "_law_seed"]
theorem sc_law_generator : FnScope N_law_generator ["_law_script", "_law_index"] (defScope s_law_generator) := ⟨rfl, rfl, rfl, by decide +kernel, rfl, by decide +kernel, by decide +kernel⟩
abbrev s_law_rest : Stmt := top 35
abbrev N_law_rest : List Str := ["_law_whole", "_law_number", "_law_left"]
theorem sc_law_rest : FnScope N_law_rest ["_law_whole", "_law_number"] (defScope s_law_rest) := ⟨rfl, rfl, rfl, by decide +kernel, rfl, by decide +kernel, by decide +kernel⟩
abbrev s_law_drawn : Stmt := top 36
abbrev N_law_drawn : List Str := ["_law_generator_here", "_law_width"]
theorem sc_law_drawn : FnScope N_law_drawn ["_law_generator_here", "_law_width"] (defScope s_law_drawn) := ⟨rfl, rfl, rfl, by decide +kernel, rfl, by decide +kernel, by decide +kernel⟩
abbrev s_law_places : Stmt := top 37
abbrev N_law_places : List Str := ["_law_number", "_law_place"]
theorem sc_law_places : FnScope N_law_places ["_law_number"] (defScope s_law_places) := ⟨rfl, rfl, rfl, by decide +kernel, rfl, by decide +kernel, by decide +kernel⟩
abbrev s_law_small_right : Stmt := top 38
abbrev N_law_small_right : List Str := ["_law_check", "_law_whole", "_law_span", "_law_some", "_law_due", "_law_number", "_law_told"]
theorem sc_law_small_right : FnScope N_law_small_right ["_law_check", "_law_whole", "_law_span"] (defScope s_law_small_right) := ⟨rfl, rfl, rfl, by decide +kernel, rfl, by decide +kernel, by decide +kernel⟩
abbrev s_law_great_right : Stmt := top 39
abbrev N_law_great_right : List Str := ["_law_generator_here", "_law_check", "_law_whole", "_law_span", "_law_size", "_law_many", "_law_before", "_law_number", "_law_told", "_law_value", "_law_place"]
theorem sc_law_great_right : FnScope N_law_great_right ["_law_generator_here", "_law_check", "_law_whole", "_law_span"] (defScope s_law_great_right) := ⟨rfl, rfl, rfl, by decide +kernel, rfl, by decide +kernel, by decide +kernel⟩
abbrev s_law_caught : Stmt := top 40
abbrev N_law_caught : List Str := ["_law_door", "_law_check", "_law_span", "_law_number", "error", "_law_kinds"]
theorem sc_law_caught : FnScope N_law_caught ["_law_door", "_law_check", "_law_span", "_law_number"] (defScope s_law_caught) := ⟨rfl, rfl, rfl, by decide +kernel, rfl, by decide +kernel, by decide +kernel⟩
abbrev s_law_refused : Stmt := top 41
abbrev N_law_refused : List Str := ["_law_check", "_law_whole", "_law_span", "_law_odd", "_law_many", "_law_right", "_law_odds", "_law_door", "_law_place"]
theorem sc_law_refused : FnScope N_law_refused ["_law_check", "_law_whole", "_law_span"] (defScope s_law_refused) := ⟨rfl, rfl, rfl, by decide +kernel, rfl, by decide +kernel, by decide +kernel⟩
abbrev s_law : Stmt := top 42
abbrev N_law : List Str := ["_law_script", "_law_index", "_law_told", "_law_generator_here", "_law_width", "_law_low", "_law_span", "_law_check", "_law_whole", "_law_number"]
theorem sc_law : FnScope N_law ["_law_script"] (defScope s_law) := ⟨rfl, rfl, rfl, by decide +kernel, rfl, by decide +kernel, by decide +kernel⟩
abbrev s_Check___init__ : Stmt := inClass (top 14) 0
abbrev N_Check___init__ : List Str := ["self", "width", "low"]
theorem sc_Check___init__ : FnScope N_Check___init__ ["self", "width", "low"] (defScope s_Check___init__) := ⟨rfl, rfl, rfl, by decide +kernel, rfl, by decide +kernel, by decide +kernel⟩
abbrev s_InvalidNumber___init__ : Stmt := inClass (top 2) 0
theorem nsc_InvalidNumber : NdefX.NScope ["self", "value", "__class__"] ["self", "value"] ["__class__"] (defScope s_InvalidNumber___init__) := NdefX.nscope_by (by decide +kernel)
theorem sb_InvalidNumber : Sup.SupBody s_InvalidNumber___init__ := ⟨_, _, _, _, _, _, _, _, _, _, rfl, by decide +kernel, fun env => ⟨_, rfl⟩⟩
abbrev s_InvalidCheck___init__ : Stmt := inClass (top 3) 0
theorem nsc_InvalidCheck : NdefX.NScope ["self", "value", "__class__"] ["self", "value"] ["__class__"] (defScope s_InvalidCheck___init__) := NdefX.nscope_by (by decide +kernel)
theorem sb_InvalidCheck : Sup.SupBody s_InvalidCheck___init__ := ⟨_, _, _, _, _, _, _, _, _, _, rfl, by decide +kernel, fun env => ⟨_, rfl⟩⟩
abbrev s_InvalidPlaces___init__ : Stmt := inClass (top 4) 0
theorem nsc_InvalidPlaces : NdefX.NScope ["self", "value", "__class__"] ["self", "value"] ["__class__"] (defScope s_InvalidPlaces___init__) := NdefX.nscope_by (by decide +kernel)
theorem sb_InvalidPlaces : Sup.SupBody s_InvalidPlaces___init__ := ⟨_, _, _, _, _, _, _, _, _, _, rfl, by decide +kernel, fun env => ⟨_, rfl⟩⟩
def fileS : Str := PySem.Challenge.pw_wholesound_k63_shapes_in_spans.main.file
def notTys : List String := ["NoneType", "bool", "int", "str", "list", "tuple", "dict"]
/-- what the top has left -/
structure Top (K : PySem.W.Frag) (mg : Str → Option Value) where
  C_Check : Addr
  gc_Check : mg "Check" = some (.ref C_Check)
  cl_Check : Cls K C_Check
  ic_Check : C8.InsC K C_Check
  kx_Check : ∀ T ∈ notTys, PySem.W.kitOne K (.type T) (.ref C_Check) = some false
  na_Check_size : NoAttr K C_Check "size"
  na_Check_tail : NoAttr K C_Check "tail"
  f_is_whole : Addr
  fd_is_whole : FuncData
  F_is_whole : FunD K "is_whole" "is_whole" (defArgs s_is_whole) (defBody s_is_whole) (defScope s_is_whole) [] [] f_is_whole fd_is_whole
  b_is_whole : Binds K fd_is_whole ["value"] []
  g_is_whole : mg "is_whole" = some (.ref f_is_whole)
  f_is_between : Addr
  fd_is_between : FuncData
  F_is_between : FunD K "is_between" "is_between" (defArgs s_is_between) (defBody s_is_between) (defScope s_is_between) [] [] f_is_between fd_is_between
  b_is_between : Binds K fd_is_between ["value", "low", "high"] []
  g_is_between : mg "is_between" = some (.ref f_is_between)
  f_check_number : Addr
  fd_check_number : FuncData
  F_check_number : FunD K "check_number" "check_number" (defArgs s_check_number) (defBody s_check_number) (defScope s_check_number) [] [] f_check_number fd_check_number
  b_check_number : Binds K fd_check_number ["number", "low", "high"] []
  g_check_number : mg "check_number" = some (.ref f_check_number)
  f_sum_of : Addr
  fd_sum_of : FuncData
  F_sum_of : FunD K "sum_of" "sum_of" (defArgs s_sum_of) (defBody s_sum_of) (defScope s_sum_of) [] [] f_sum_of fd_sum_of
  b_sum_of : Binds K fd_sum_of ["check"] []
  g_sum_of : mg "sum_of" = some (.ref f_sum_of)
  f_check_check : Addr
  fd_check_check : FuncData
  F_check_check : FunD K "check_check" "check_check" (defArgs s_check_check) (defBody s_check_check) (defScope s_check_check) [] [] f_check_check fd_check_check
  b_check_check : Binds K fd_check_check ["check"] []
  g_check_check : mg "check_check" = some (.ref f_check_check)
  f_are_places : Addr
  fd_are_places : FuncData
  F_are_places : FunD K "are_places" "are_places" (defArgs s_are_places) (defBody s_are_places) (defScope s_are_places) [] [] f_are_places fd_are_places
  b_are_places : Binds K fd_are_places ["value"] []
  g_are_places : mg "are_places" = some (.ref f_are_places)
  f_check_places : Addr
  fd_check_places : FuncData
  F_check_places : FunD K "check_places" "check_places" (defArgs s_check_places) (defBody s_check_places) (defScope s_check_places) [] [] f_check_places fd_check_places
  b_check_places : Binds K fd_check_places ["places"] []
  g_check_places : mg "check_places" = some (.ref f_check_places)
  f_shifted : Addr
  fd_shifted : FuncData
  F_shifted : FunD K "shifted" "shifted" (defArgs s_shifted) (defBody s_shifted) (defScope s_shifted) [] [] f_shifted fd_shifted
  b_shifted : Binds K fd_shifted ["check", "one"] []
  g_shifted : mg "shifted" = some (.ref f_shifted)
  f_rest_of : Addr
  fd_rest_of : FuncData
  F_rest_of : FunD K "rest_of" "rest_of" (defArgs s_rest_of) (defBody s_rest_of) (defScope s_rest_of) [] [] f_rest_of fd_rest_of
  b_rest_of : Binds K fd_rest_of ["check", "bits"] []
  g_rest_of : mg "rest_of" = some (.ref f_rest_of)
  f_rest_times : Addr
  fd_rest_times : FuncData
  F_rest_times : FunD K "rest_times" "rest_times" (defArgs s_rest_times) (defBody s_rest_times) (defScope s_rest_times) [] [] f_rest_times fd_rest_times
  b_rest_times : Binds K fd_rest_times ["check", "one", "other"] []
  g_rest_times : mg "rest_times" = some (.ref f_rest_times)
  f_power_of : Addr
  fd_power_of : FuncData
  F_power_of : FunD K "power_of" "power_of" (defArgs s_power_of) (defBody s_power_of) (defScope s_power_of) [] [] f_power_of fd_power_of
  b_power_of : Binds K fd_power_of ["check", "many"] []
  g_power_of : mg "power_of" = some (.ref f_power_of)
  f_sum_at : Addr
  fd_sum_at : FuncData
  F_sum_at : FunD K "sum_at" "sum_at" (defArgs s_sum_at) (defBody s_sum_at) (defScope s_sum_at) [] [] f_sum_at fd_sum_at
  b_sum_at : Binds K fd_sum_at ["check", "places"] []
  g_sum_at : mg "sum_at" = some (.ref f_sum_at)
  f_unseen : Addr
  fd_unseen : FuncData
  F_unseen : FunD K "unseen" "unseen" (defArgs s_unseen) (defBody s_unseen) (defScope s_unseen) [] [] f_unseen fd_unseen
  b_unseen : Binds K fd_unseen ["check", "places"] []
  g_unseen : mg "unseen" = some (.ref f_unseen)
  f_ones_in : Addr
  fd_ones_in : FuncData
  F_ones_in : FunD K "ones_in" "ones_in" (defArgs s_ones_in) (defBody s_ones_in) (defScope s_ones_in) [] [] f_ones_in fd_ones_in
  b_ones_in : Binds K fd_ones_in ["number"] []
  g_ones_in : mg "ones_in" = some (.ref f_ones_in)
  f_shapes_of : Addr
  fd_shapes_of : FuncData
  F_shapes_of : FunD K "shapes_of" "shapes_of" (defArgs s_shapes_of) (defBody s_shapes_of) (defScope s_shapes_of) [] [] f_shapes_of fd_shapes_of
  b_shapes_of : Binds K fd_shapes_of ["check", "span"] []
  g_shapes_of : mg "shapes_of" = some (.ref f_shapes_of)
  f_how_many_shapes : Addr
  fd_how_many_shapes : FuncData
  F_how_many_shapes : FunD K "how_many_shapes" "how_many_shapes" (defArgs s_how_many_shapes) (defBody s_how_many_shapes) (defScope s_how_many_shapes) [] [] f_how_many_shapes fd_how_many_shapes
  b_how_many_shapes : Binds K fd_how_many_shapes ["check", "span"] []
  g_how_many_shapes : mg "how_many_shapes" = some (.ref f_how_many_shapes)
  f_shape_at : Addr
  fd_shape_at : FuncData
  F_shape_at : FunD K "shape_at" "shape_at" (defArgs s_shape_at) (defBody s_shape_at) (defScope s_shape_at) [] [] f_shape_at fd_shape_at
  b_shape_at : Binds K fd_shape_at ["check", "span", "number"] []
  g_shape_at : mg "shape_at" = some (.ref f_shape_at)
  f_shape_number : Addr
  fd_shape_number : FuncData
  F_shape_number : FunD K "shape_number" "shape_number" (defArgs s_shape_number) (defBody s_shape_number) (defScope s_shape_number) [] [] f_shape_number fd_shape_number
  b_shape_number : Binds K fd_shape_number ["check", "places"] []
  g_shape_number : mg "shape_number" = some (.ref f_shape_number)
  f_law_hash : Addr
  fd_law_hash : FuncData
  F_law_hash : FunD K "_law_hash" "_law_hash" (defArgs s_law_hash) (defBody s_law_hash) (defScope s_law_hash) [] [] f_law_hash fd_law_hash
  b_law_hash : Binds K fd_law_hash ["_law_seed", "_law_index"] []
  g_law_hash : mg "_law_hash" = some (.ref f_law_hash)
  f_law_random : Addr
  fd_law_random : FuncData
  F_law_random : FunD K "_law_random" "_law_random" (defArgs s_law_random) (defBody s_law_random) (defScope s_law_random) [] [] f_law_random fd_law_random
  b_law_random : Binds K fd_law_random ["_law_generator_here", "_law_bound"] []
  g_law_random : mg "_law_random" = some (.ref f_law_random)
  f_law_cell : Addr
  fd_law_cell : FuncData
  F_law_cell : FunD K "_law_cell" "_law_cell" (defArgs s_law_cell) (defBody s_law_cell) (defScope s_law_cell) [] [] f_law_cell fd_law_cell
  b_law_cell : Binds K fd_law_cell ["_law_script", "_law_index"] []
  g_law_cell : mg "_law_cell" = some (.ref f_law_cell)
  f_law_generator : Addr
  fd_law_generator : FuncData
  F_law_generator : FunD K "_law_generator" "_law_generator" (defArgs s_law_generator) (defBody s_law_generator) (defScope s_law_generator) [] [] f_law_generator fd_law_generator
  b_law_generator : Binds K fd_law_generator ["_law_script", "_law_index"] []
  g_law_generator : mg "_law_generator" = some (.ref f_law_generator)
  f_law_rest : Addr
  fd_law_rest : FuncData
  F_law_rest : FunD K "_law_rest" "_law_rest" (defArgs s_law_rest) (defBody s_law_rest) (defScope s_law_rest) [] [] f_law_rest fd_law_rest
  b_law_rest : Binds K fd_law_rest ["_law_whole", "_law_number"] []
  g_law_rest : mg "_law_rest" = some (.ref f_law_rest)
  f_law_drawn : Addr
  fd_law_drawn : FuncData
  F_law_drawn : FunD K "_law_drawn" "_law_drawn" (defArgs s_law_drawn) (defBody s_law_drawn) (defScope s_law_drawn) [] [] f_law_drawn fd_law_drawn
  b_law_drawn : Binds K fd_law_drawn ["_law_generator_here", "_law_width"] []
  g_law_drawn : mg "_law_drawn" = some (.ref f_law_drawn)
  f_law_places : Addr
  fd_law_places : FuncData
  F_law_places : FunD K "_law_places" "_law_places" (defArgs s_law_places) (defBody s_law_places) (defScope s_law_places) [] [] f_law_places fd_law_places
  b_law_places : Binds K fd_law_places ["_law_number"] []
  g_law_places : mg "_law_places" = some (.ref f_law_places)
  f_law_small_right : Addr
  fd_law_small_right : FuncData
  F_law_small_right : FunD K "_law_small_right" "_law_small_right" (defArgs s_law_small_right) (defBody s_law_small_right) (defScope s_law_small_right) [] [] f_law_small_right fd_law_small_right
  b_law_small_right : Binds K fd_law_small_right ["_law_check", "_law_whole", "_law_span"] []
  g_law_small_right : mg "_law_small_right" = some (.ref f_law_small_right)
  f_law_great_right : Addr
  fd_law_great_right : FuncData
  F_law_great_right : FunD K "_law_great_right" "_law_great_right" (defArgs s_law_great_right) (defBody s_law_great_right) (defScope s_law_great_right) [] [] f_law_great_right fd_law_great_right
  b_law_great_right : Binds K fd_law_great_right ["_law_generator_here", "_law_check", "_law_whole", "_law_span"] []
  g_law_great_right : mg "_law_great_right" = some (.ref f_law_great_right)
  f_law_caught : Addr
  fd_law_caught : FuncData
  F_law_caught : FunD K "_law_caught" "_law_caught" (defArgs s_law_caught) (defBody s_law_caught) (defScope s_law_caught) [] [] f_law_caught fd_law_caught
  b_law_caught : Binds K fd_law_caught ["_law_door", "_law_check", "_law_span", "_law_number"] []
  g_law_caught : mg "_law_caught" = some (.ref f_law_caught)
  f_law_refused : Addr
  fd_law_refused : FuncData
  F_law_refused : FunD K "_law_refused" "_law_refused" (defArgs s_law_refused) (defBody s_law_refused) (defScope s_law_refused) [] [] f_law_refused fd_law_refused
  b_law_refused : Binds K fd_law_refused ["_law_check", "_law_whole", "_law_span"] []
  g_law_refused : mg "_law_refused" = some (.ref f_law_refused)
  f_law : Addr
  fd_law : FuncData
  F_law : FunD K "law" "law" (defArgs s_law) (defBody s_law) (defScope s_law) [] [] f_law fd_law
  b_law : Binds K fd_law ["_law_script"] []
  g_law : mg "law" = some (.ref f_law)
  f_Check___init__ : Addr
  fd_Check___init__ : FuncData
  F_Check___init__ : FunD K "__init__" "Check.__init__" (defArgs s_Check___init__) (defBody s_Check___init__) (defScope s_Check___init__) [] [] f_Check___init__ fd_Check___init__
  b_Check___init__ : Binds K fd_Check___init__ ["self", "width", "low"] []
  me_Check___init__ : Meth K C_Check "__init__" f_Check___init__
  mk_Check : Mk K C_Check f_Check___init__
  C_InvalidNumber : Addr
  gc_InvalidNumber : mg "InvalidNumber" = some (.ref C_InvalidNumber)
  fi_InvalidNumber : Addr
  fd_InvalidNumber : FuncData
  er_InvalidNumber : ErrC K fileS "InvalidNumber" s_InvalidNumber___init__ C_InvalidNumber fi_InvalidNumber fd_InvalidNumber
  C_InvalidCheck : Addr
  gc_InvalidCheck : mg "InvalidCheck" = some (.ref C_InvalidCheck)
  fi_InvalidCheck : Addr
  fd_InvalidCheck : FuncData
  er_InvalidCheck : ErrC K fileS "InvalidCheck" s_InvalidCheck___init__ C_InvalidCheck fi_InvalidCheck fd_InvalidCheck
  C_InvalidPlaces : Addr
  gc_InvalidPlaces : mg "InvalidPlaces" = some (.ref C_InvalidPlaces)
  fi_InvalidPlaces : Addr
  fd_InvalidPlaces : FuncData
  er_InvalidPlaces : ErrC K fileS "InvalidPlaces" s_InvalidPlaces___init__ C_InvalidPlaces fi_InvalidPlaces fd_InvalidPlaces
  C_SoundError : Addr
  gc_SoundError : mg "SoundError" = some (.ref C_SoundError)
  em_InvalidNumber_SoundError : PySem.W.exmOne K (.ref C_InvalidNumber) (.ref C_SoundError) = some true
  em_InvalidNumber_InvalidCheck : PySem.W.exmOne K (.ref C_InvalidNumber) (.ref C_InvalidCheck) = some false
  em_InvalidNumber_InvalidNumber : PySem.W.exmOne K (.ref C_InvalidNumber) (.ref C_InvalidNumber) = some true
  em_InvalidNumber_InvalidPlaces : PySem.W.exmOne K (.ref C_InvalidNumber) (.ref C_InvalidPlaces) = some false
  em_InvalidCheck_SoundError : PySem.W.exmOne K (.ref C_InvalidCheck) (.ref C_SoundError) = some true
  em_InvalidCheck_InvalidCheck : PySem.W.exmOne K (.ref C_InvalidCheck) (.ref C_InvalidCheck) = some true
  em_InvalidCheck_InvalidNumber : PySem.W.exmOne K (.ref C_InvalidCheck) (.ref C_InvalidNumber) = some false
  em_InvalidCheck_InvalidPlaces : PySem.W.exmOne K (.ref C_InvalidCheck) (.ref C_InvalidPlaces) = some false
  em_InvalidPlaces_SoundError : PySem.W.exmOne K (.ref C_InvalidPlaces) (.ref C_SoundError) = some true
  em_InvalidPlaces_InvalidCheck : PySem.W.exmOne K (.ref C_InvalidPlaces) (.ref C_InvalidCheck) = some false
  em_InvalidPlaces_InvalidNumber : PySem.W.exmOne K (.ref C_InvalidPlaces) (.ref C_InvalidNumber) = some false
  em_InvalidPlaces_InvalidPlaces : PySem.W.exmOne K (.ref C_InvalidPlaces) (.ref C_InvalidPlaces) = some true
  ki_InvalidNumber_SoundError : PySem.W.kitOne K (.ref C_InvalidNumber) (.ref C_SoundError) = some true
  ki_InvalidNumber_InvalidCheck : PySem.W.kitOne K (.ref C_InvalidNumber) (.ref C_InvalidCheck) = some false
  ki_InvalidNumber_InvalidNumber : PySem.W.kitOne K (.ref C_InvalidNumber) (.ref C_InvalidNumber) = some true
  ki_InvalidNumber_InvalidPlaces : PySem.W.kitOne K (.ref C_InvalidNumber) (.ref C_InvalidPlaces) = some false
  ki_InvalidCheck_SoundError : PySem.W.kitOne K (.ref C_InvalidCheck) (.ref C_SoundError) = some true
  ki_InvalidCheck_InvalidCheck : PySem.W.kitOne K (.ref C_InvalidCheck) (.ref C_InvalidCheck) = some true
  ki_InvalidCheck_InvalidNumber : PySem.W.kitOne K (.ref C_InvalidCheck) (.ref C_InvalidNumber) = some false
  ki_InvalidCheck_InvalidPlaces : PySem.W.kitOne K (.ref C_InvalidCheck) (.ref C_InvalidPlaces) = some false
  ki_InvalidPlaces_SoundError : PySem.W.kitOne K (.ref C_InvalidPlaces) (.ref C_SoundError) = some true
  ki_InvalidPlaces_InvalidCheck : PySem.W.kitOne K (.ref C_InvalidPlaces) (.ref C_InvalidCheck) = some false
  ki_InvalidPlaces_InvalidNumber : PySem.W.kitOne K (.ref C_InvalidPlaces) (.ref C_InvalidNumber) = some false
  ki_InvalidPlaces_InvalidPlaces : PySem.W.kitOne K (.ref C_InvalidPlaces) (.ref C_InvalidPlaces) = some true
  kn_InvalidCheck : PySem.W.kitOne K (.type "NoneType") (.ref C_InvalidCheck) = some false
  kn_InvalidNumber : PySem.W.kitOne K (.type "NoneType") (.ref C_InvalidNumber) = some false
  kn_InvalidPlaces : PySem.W.kitOne K (.type "NoneType") (.ref C_InvalidPlaces) = some false
  ei_InvalidNumber : ExcI K C_InvalidNumber
  ei_InvalidCheck : ExcI K C_InvalidCheck
  ei_InvalidPlaces : ExcI K C_InvalidPlaces
  kv_InvalidNumber : PySem.W.kitOne K (.ref C_InvalidNumber) (.type "ValueError") = some true
  kv_InvalidCheck : PySem.W.kitOne K (.ref C_InvalidCheck) (.type "ValueError") = some true
  kv_InvalidPlaces : PySem.W.kitOne K (.ref C_InvalidPlaces) (.type "ValueError") = some true
  n_len : mg "len" = none
  n_sum : mg "sum" = none
  n_max : mg "max" = none
  n_int : mg "int" = none
  n_bool : mg "bool" = none
  n_list : mg "list" = none
  n_range : mg "range" = none
  n_isinstance : mg "isinstance" = none
  n_zip : mg "zip" = none
  n_sorted : mg "sorted" = none
  n_repr : mg "repr" = none
  n_all : mg "all" = none
  n_super : mg "super" = none
  n_ValueError : mg "ValueError" = none
  t_MOST_WIDTH : Tok
  m_MOST_WIDTH : mg "MOST_WIDTH" = some (.int 16 t_MOST_WIDTH)
  t_MOST_PLACE : Tok
  m_MOST_PLACE : mg "MOST_PLACE" = some (.int 1000000000000000000 t_MOST_PLACE)
  t_MOST_SPAN : Tok
  m_MOST_SPAN : mg "MOST_SPAN" = some (.int 1000 t_MOST_SPAN)
def d_is_whole : He.DefD := ⟨("is_whole", none), "is_whole", "is_whole", defArgs s_is_whole, defBody s_is_whole, defScope s_is_whole, [], []⟩
def d_is_between : He.DefD := ⟨("is_between", none), "is_between", "is_between", defArgs s_is_between, defBody s_is_between, defScope s_is_between, [], []⟩
def d_check_number : He.DefD := ⟨("check_number", none), "check_number", "check_number", defArgs s_check_number, defBody s_check_number, defScope s_check_number, [], []⟩
def d_sum_of : He.DefD := ⟨("sum_of", none), "sum_of", "sum_of", defArgs s_sum_of, defBody s_sum_of, defScope s_sum_of, [], []⟩
def d_check_check : He.DefD := ⟨("check_check", none), "check_check", "check_check", defArgs s_check_check, defBody s_check_check, defScope s_check_check, [], []⟩
def d_are_places : He.DefD := ⟨("are_places", none), "are_places", "are_places", defArgs s_are_places, defBody s_are_places, defScope s_are_places, [], []⟩
def d_check_places : He.DefD := ⟨("check_places", none), "check_places", "check_places", defArgs s_check_places, defBody s_check_places, defScope s_check_places, [], []⟩
def d_shifted : He.DefD := ⟨("shifted", none), "shifted", "shifted", defArgs s_shifted, defBody s_shifted, defScope s_shifted, [], []⟩
def d_rest_of : He.DefD := ⟨("rest_of", none), "rest_of", "rest_of", defArgs s_rest_of, defBody s_rest_of, defScope s_rest_of, [], []⟩
def d_rest_times : He.DefD := ⟨("rest_times", none), "rest_times", "rest_times", defArgs s_rest_times, defBody s_rest_times, defScope s_rest_times, [], []⟩
def d_power_of : He.DefD := ⟨("power_of", none), "power_of", "power_of", defArgs s_power_of, defBody s_power_of, defScope s_power_of, [], []⟩
def d_sum_at : He.DefD := ⟨("sum_at", none), "sum_at", "sum_at", defArgs s_sum_at, defBody s_sum_at, defScope s_sum_at, [], []⟩
def d_unseen : He.DefD := ⟨("unseen", none), "unseen", "unseen", defArgs s_unseen, defBody s_unseen, defScope s_unseen, [], []⟩
def d_ones_in : He.DefD := ⟨("ones_in", none), "ones_in", "ones_in", defArgs s_ones_in, defBody s_ones_in, defScope s_ones_in, [], []⟩
def d_shapes_of : He.DefD := ⟨("shapes_of", none), "shapes_of", "shapes_of", defArgs s_shapes_of, defBody s_shapes_of, defScope s_shapes_of, [], []⟩
def d_how_many_shapes : He.DefD := ⟨("how_many_shapes", none), "how_many_shapes", "how_many_shapes", defArgs s_how_many_shapes, defBody s_how_many_shapes, defScope s_how_many_shapes, [], []⟩
def d_shape_at : He.DefD := ⟨("shape_at", none), "shape_at", "shape_at", defArgs s_shape_at, defBody s_shape_at, defScope s_shape_at, [], []⟩
def d_shape_number : He.DefD := ⟨("shape_number", none), "shape_number", "shape_number", defArgs s_shape_number, defBody s_shape_number, defScope s_shape_number, [], []⟩
def d_law_hash : He.DefD := ⟨("_law_hash", none), "_law_hash", "_law_hash", defArgs s_law_hash, defBody s_law_hash, defScope s_law_hash, [], []⟩
def d_law_random : He.DefD := ⟨("_law_random", none), "_law_random", "_law_random", defArgs s_law_random, defBody s_law_random, defScope s_law_random, [], []⟩
def d_law_cell : He.DefD := ⟨("_law_cell", none), "_law_cell", "_law_cell", defArgs s_law_cell, defBody s_law_cell, defScope s_law_cell, [], []⟩
def d_law_generator : He.DefD := ⟨("_law_generator", none), "_law_generator", "_law_generator", defArgs s_law_generator, defBody s_law_generator, defScope s_law_generator, [], []⟩
def d_law_rest : He.DefD := ⟨("_law_rest", none), "_law_rest", "_law_rest", defArgs s_law_rest, defBody s_law_rest, defScope s_law_rest, [], []⟩
def d_law_drawn : He.DefD := ⟨("_law_drawn", none), "_law_drawn", "_law_drawn", defArgs s_law_drawn, defBody s_law_drawn, defScope s_law_drawn, [], []⟩
def d_law_places : He.DefD := ⟨("_law_places", none), "_law_places", "_law_places", defArgs s_law_places, defBody s_law_places, defScope s_law_places, [], []⟩
def d_law_small_right : He.DefD := ⟨("_law_small_right", none), "_law_small_right", "_law_small_right", defArgs s_law_small_right, defBody s_law_small_right, defScope s_law_small_right, [], []⟩
def d_law_great_right : He.DefD := ⟨("_law_great_right", none), "_law_great_right", "_law_great_right", defArgs s_law_great_right, defBody s_law_great_right, defScope s_law_great_right, [], []⟩
def d_law_caught : He.DefD := ⟨("_law_caught", none), "_law_caught", "_law_caught", defArgs s_law_caught, defBody s_law_caught, defScope s_law_caught, [], []⟩
def d_law_refused : He.DefD := ⟨("_law_refused", none), "_law_refused", "_law_refused", defArgs s_law_refused, defBody s_law_refused, defScope s_law_refused, [], []⟩
def d_law : He.DefD := ⟨("law", none), "law", "law", defArgs s_law, defBody s_law, defScope s_law, [], []⟩
def d_Check___init__ : He.DefD := ⟨("Check", some "__init__"), "__init__", "Check.__init__", defArgs s_Check___init__, defBody s_Check___init__, defScope s_Check___init__, [], []⟩
def fn : List He.DefD := [d_is_whole, d_is_between, d_check_number, d_sum_of, d_check_check, d_are_places, d_check_places, d_shifted, d_rest_of, d_rest_times, d_power_of, d_sum_at, d_unseen, d_ones_in, d_shapes_of, d_how_many_shapes, d_shape_at, d_shape_number, d_law_hash, d_law_random, d_law_cell, d_law_generator, d_law_rest, d_law_drawn, d_law_places, d_law_small_right, d_law_great_right, d_law_caught, d_law_refused, d_law, d_Check___init__]
def fa0 : List He.Fa := [.glo "is_whole", .glo "is_between", .glo "check_number", .glo "sum_of", .glo "check_check", .glo "are_places", .glo "check_places", .glo "shifted", .glo "rest_of", .glo "rest_times", .glo "power_of", .glo "sum_at", .glo "unseen", .glo "ones_in", .glo "shapes_of", .glo "how_many_shapes", .glo "shape_at", .glo "shape_number", .glo "_law_hash", .glo "_law_random", .glo "_law_cell", .glo "_law_generator", .glo "_law_rest", .glo "_law_drawn", .glo "_law_places", .glo "_law_small_right", .glo "_law_great_right", .glo "_law_caught", .glo "_law_refused", .glo "law"]
def fa1 : List He.Fa := [.free "len", .free "sum", .free "max", .free "int", .free "bool", .free "list", .free "range", .free "isinstance", .free "zip", .free "sorted", .free "repr", .free "all", .free "super", .free "ValueError", .int "MOST_WIDTH" 16, .int "MOST_PLACE" 1000000000000000000, .int "MOST_SPAN" 1000, .glo "Check", .cls "Check", .noat "Check" "size", .noat "Check" "tail", .mkr "Check", .meth "Check" "__init__", .glo "InvalidNumber", .glo "InvalidCheck", .glo "InvalidPlaces", .glo "SoundError"]
def fa : List He.Fa := fa0 ++ fa1
/-- isinstance of an own class -/
def insB (K : PySem.W.Frag) (x : Str) : Bool := decide (PySem.W.findIn K (.ref (He.ga K x)) "__class__" = some (some (.builtin "object.__class__"))) && (decide (PySem.W.specialIn K (.builtin "object.__class__") "__get__" = some (some (.builtin "getset_descriptor.__get__"))) && (decide (PySem.W.takesIn K (.builtin "object.__class__") = some true) && (decide (PySem.W.mroIn K (He.ga K x) (.type "object") = some true) && (decide (PySem.W.kitOne K (.ref (He.ga K x)) (.ref (He.ga K x)) = some true) && notTys.all fun T => decide (PySem.W.kitOne K (.type T) (.ref (He.ga K x)) = some false)))))
theorem insB_ok {K : PySem.W.Frag} {x : Str} (cl : Cls K (He.ga K x)) (h : insB K x = true) : C8.InsC K (He.ga K x) := by
  unfold insB at h
  simp only [Bool.and_eq_true, decide_eq_true_eq] at h
  exact ⟨cl, h.1, h.2.1, h.2.2.1, h.2.2.2.1, h.2.2.2.2.1⟩
theorem insN_ok {K : PySem.W.Frag} {x : Str} (h : insB K x = true) : ∀ T ∈ notTys, PySem.W.kitOne K (.type T) (.ref (He.ga K x)) = some false := by
  intro T hT
  unfold insB at h
  simp only [Bool.and_eq_true] at h
  exact of_decide_eq_true (List.all_eq_true.mp h.2.2.2.2.2 T hT)
def eqB (K : PySem.W.Frag) (x : Str) : Bool := decide (PySem.W.findIn K (.ref (He.ga K x)) "__ne__" = some (some (.builtin "object.__ne__"))) && (decide (PySem.W.subIn K (.ref (He.ga K x)) (.type "object") = some true) && (decide (PySem.W.subIn K (.type "list") (.ref (He.ga K x)) = some false) && (decide (PySem.W.kitOne K (.type "list") (.ref (He.ga K x)) = some false) && (decide (PySem.W.subIn K (.type "tuple") (.ref (He.ga K x)) = some false) && decide (PySem.W.kitOne K (.type "tuple") (.ref (He.ga K x)) = some false)))))
def eqs : List Str := []
def own : List Str := ["Check"]
def ex (K : PySem.W.Frag) : Bool := (own.all fun x => insB K x) && eqs.all fun x => eqB K x
abbrev R : PySem.W.OpenRow := PySem.W.OpenLaw.row PySem.Challenge.rw_wholesound_k63_shapes_in_spans
def errs : List Str := ["InvalidNumber", "InvalidCheck", "InvalidPlaces"]
def ems : List (Str × Str × Bool) := [(("InvalidNumber" : Str), ("SoundError" : Str), true), (("InvalidNumber" : Str), ("InvalidCheck" : Str), false), (("InvalidNumber" : Str), ("InvalidNumber" : Str), true), (("InvalidNumber" : Str), ("InvalidPlaces" : Str), false), (("InvalidCheck" : Str), ("SoundError" : Str), true), (("InvalidCheck" : Str), ("InvalidCheck" : Str), true), (("InvalidCheck" : Str), ("InvalidNumber" : Str), false), (("InvalidCheck" : Str), ("InvalidPlaces" : Str), false), (("InvalidPlaces" : Str), ("SoundError" : Str), true), (("InvalidPlaces" : Str), ("InvalidCheck" : Str), false), (("InvalidPlaces" : Str), ("InvalidNumber" : Str), false), (("InvalidPlaces" : Str), ("InvalidPlaces" : Str), true)]
def emB (K : PySem.W.Frag) (z : Str × Str × Bool) : Bool := decide (PySem.W.exmOne K (.ref (He.ga K z.1)) (.ref (He.ga K z.2.1)) = some z.2.2) && (decide (PySem.W.kitOne K (.ref (He.ga K z.1)) (.ref (He.ga K z.2.1)) = some z.2.2) && (decide (PySem.W.kitOne K (.type "NoneType") (.ref (He.ga K z.2.1)) = some false) && (decide (PySem.W.findIn K (.ref (He.ga K z.1)) "__class__" = some (some (.builtin "object.__class__"))) && (decide (PySem.W.specialIn K (.builtin "object.__class__") "__get__" = some (some (.builtin "getset_descriptor.__get__"))) && (decide (PySem.W.takesIn K (.builtin "object.__class__") = some true) && (decide (PySem.W.mroIn K (He.ga K z.1) (.type "object") = some true) && (decide (PySem.W.kitOne K (.ref (He.ga K z.1)) (.type "ValueError") = some true))))))))
theorem emB_ok {K : PySem.W.Frag} {z : Str × Str × Bool} (h : emB K z = true) : PySem.W.exmOne K (.ref (He.ga K z.1)) (.ref (He.ga K z.2.1)) = some z.2.2 ∧ PySem.W.kitOne K (.ref (He.ga K z.1)) (.ref (He.ga K z.2.1)) = some z.2.2 ∧ PySem.W.kitOne K (.type "NoneType") (.ref (He.ga K z.2.1)) = some false ∧ PySem.W.findIn K (.ref (He.ga K z.1)) "__class__" = some (some (.builtin "object.__class__")) ∧ PySem.W.specialIn K (.builtin "object.__class__") "__get__" = some (some (.builtin "getset_descriptor.__get__")) ∧ PySem.W.takesIn K (.builtin "object.__class__") = some true ∧ PySem.W.mroIn K (He.ga K z.1) (.type "object") = some true ∧ PySem.W.kitOne K (.ref (He.ga K z.1)) (.type "ValueError") = some true := by
  unfold emB at h
  simp only [Bool.and_eq_true, decide_eq_true_eq] at h
  exact h
def erV : List ErW := [some (("__init__" : Str), ("InvalidNumber" : Str) ++ (".__init__" : Str), defArgs s_InvalidNumber___init__, FuncBody.stmts (defBody s_InvalidNumber___init__), defScope s_InvalidNumber___init__, mainGlobals, builtinsNs), some (("__init__" : Str), ("InvalidCheck" : Str) ++ (".__init__" : Str), defArgs s_InvalidCheck___init__, FuncBody.stmts (defBody s_InvalidCheck___init__), defScope s_InvalidCheck___init__, mainGlobals, builtinsNs), some (("__init__" : Str), ("InvalidPlaces" : Str) ++ (".__init__" : Str), defArgs s_InvalidPlaces___init__, FuncBody.stmts (defBody s_InvalidPlaces___init__), defScope s_InvalidPlaces___init__, mainGlobals, builtinsNs)]
def exP (K : PySem.W.Frag) : Bool := ex K && ((errs.all fun z => errB K fileS z) && ems.all fun z => emB K z)
def exW (K : PySem.W.Frag) : List ErW := errs.map fun z => erW K z
abbrev Al : Type := He.AlD × Bool × List ErW
def frK (g : Addr → Option Obj) : PySem.W.Frag := He.frG g (cStatics :: He.asD g 5)
def obsG (g : Addr → Option Obj) : Al := (He.obsD fa fn (frK g), exP (frK g), exW (frK g))
def Says (K : PySem.W.Frag) : Prop := He.SaysD fa fn K ∧ ex K = true ∧ (∀ z ∈ errs, errB K fileS z = true) ∧ (∀ z ∈ ems, emB K z = true) ∧ exW K = erV
theorem says_of {K : PySem.W.Frag} (e : (He.obsD fa fn K, exP K, exW K) = ((He.valD fn, true, erV) : Al)) : Says K := by
  have e1 := congrArg Prod.fst e
  have e2 := congrArg (fun z : Al => z.2.1) e
  have e3 := congrArg (fun z : Al => z.2.2) e
  have e4 : ex K = true ∧ ((errs.all fun z => errB K fileS z) && ems.all fun z => emB K z) = true := Bool.and_eq_true_iff.mp (show (ex K && ((errs.all fun z => errB K fileS z) && ems.all fun z => emB K z)) = true from e2)
  have e5 : (errs.all fun z => errB K fileS z) = true ∧ (ems.all fun z => emB K z) = true := Bool.and_eq_true_iff.mp e4.2
  exact ⟨e1, e4.1, List.all_eq_true.mp e5.1, List.all_eq_true.mp e5.2, e3⟩
theorem erV_at {K : PySem.W.Frag} {ps : List Str} {vs : List ErW} (e : (ps.map fun z => erW K z) = vs) (i : Nat) {z : Str} {v : ErW} (hz : ps[i]? = some z) (hv : vs[i]? = some v) : erW K z = v := by
  rw [← e, List.getElem?_map, hz] at hv
  exact Option.some.inj hv
def hk : PySem.W.Hook where
  α := Al
  obs := fun s => obsG s.heap.get?
  val := fun _ => (He.valD fn, true, erV)
  says := fun _ h => ∃ K : PySem.W.Frag, K.In h ∧ Says K
  of := fun _ _ e => ⟨_, He.frG_in, says_of e⟩
  keeps := fun _ _ _ ⟨K, hK, c⟩ k => ⟨K, PySem.W.Frag.In.keeps hK k, c⟩
def ob (s : PySem.W.SharedT) : Al := obsG (HandSHeadRun.getT s)
theorem ob_eq (s : PySem.W.SharedT) : ob s = hk.obs s.abs := by
  have e : HandSHeadRun.getT s = s.abs.heap.get? := funext (HandSHeadRun.getT_eq s)
  show obsG (HandSHeadRun.getT s) = obsG s.abs.heap.get?
  rw [e]
def loose0 : List PySem.Str := ["SoundError", "InvalidNumber", "InvalidCheck", "InvalidPlaces", "is_whole", "is_between", "bits_of", "check_number", "MOST_WIDTH", "MOST_PLACE", "MOST_SPAN", "Check", "sum_of", "check_check", "are_places", "check_places", "shifted", "rest_of", "rest_times", "power_of", "sum_at", "unseen", "ones_in", "shapes_of", "how_many_shapes", "shape_at", "shape_number", "_law_hash", "_law_random", "_law_cell"]
def loose1 : List PySem.Str := ["_law_generator", "_law_rest", "_law_drawn", "_law_places", "_law_small_right", "_law_great_right", "_law_caught", "_law_refused"]
abbrev loose : List PySem.Str := loose0 ++ loose1
theorem run (w : World) : HandSHeadRun.RunEq R (PySem.W.view R.prog [42]) hk ob 8000 loose w := by
  intro os
  kernel_rfl
noncomputable def top_mk {K : PySem.W.Frag} {h : Heap} {mg : Str → Option Value} (X : K.In h) (G : h.Ns mainGlobals mg) (c : Says K) : Top K mg :=
  let p0 := c.1.def_ 0 (d := d_is_whole) rfl
  let p1 := c.1.def_ 1 (d := d_is_between) rfl
  let p2 := c.1.def_ 2 (d := d_check_number) rfl
  let p3 := c.1.def_ 3 (d := d_sum_of) rfl
  let p4 := c.1.def_ 4 (d := d_check_check) rfl
  let p5 := c.1.def_ 5 (d := d_are_places) rfl
  let p6 := c.1.def_ 6 (d := d_check_places) rfl
  let p7 := c.1.def_ 7 (d := d_shifted) rfl
  let p8 := c.1.def_ 8 (d := d_rest_of) rfl
  let p9 := c.1.def_ 9 (d := d_rest_times) rfl
  let p10 := c.1.def_ 10 (d := d_power_of) rfl
  let p11 := c.1.def_ 11 (d := d_sum_at) rfl
  let p12 := c.1.def_ 12 (d := d_unseen) rfl
  let p13 := c.1.def_ 13 (d := d_ones_in) rfl
  let p14 := c.1.def_ 14 (d := d_shapes_of) rfl
  let p15 := c.1.def_ 15 (d := d_how_many_shapes) rfl
  let p16 := c.1.def_ 16 (d := d_shape_at) rfl
  let p17 := c.1.def_ 17 (d := d_shape_number) rfl
  let p18 := c.1.def_ 18 (d := d_law_hash) rfl
  let p19 := c.1.def_ 19 (d := d_law_random) rfl
  let p20 := c.1.def_ 20 (d := d_law_cell) rfl
  let p21 := c.1.def_ 21 (d := d_law_generator) rfl
  let p22 := c.1.def_ 22 (d := d_law_rest) rfl
  let p23 := c.1.def_ 23 (d := d_law_drawn) rfl
  let p24 := c.1.def_ 24 (d := d_law_places) rfl
  let p25 := c.1.def_ 25 (d := d_law_small_right) rfl
  let p26 := c.1.def_ 26 (d := d_law_great_right) rfl
  let p27 := c.1.def_ 27 (d := d_law_caught) rfl
  let p28 := c.1.def_ 28 (d := d_law_refused) rfl
  let p29 := c.1.def_ 29 (d := d_law) rfl
  let p30 := c.1.def_ 30 (d := d_Check___init__) rfl
  let q0 := He.int_ok X G (c.1.fact 44 (f := .int "MOST_WIDTH" 16) rfl)
  let q1 := He.int_ok X G (c.1.fact 45 (f := .int "MOST_PLACE" 1000000000000000000) rfl)
  let q2 := He.int_ok X G (c.1.fact 46 (f := .int "MOST_SPAN" 1000) rfl)
  let er0 := err_ok (K := K) (file := fileS) (x := "InvalidNumber") (st := s_InvalidNumber___init__) (c.2.2.1 "InvalidNumber" (by decide +kernel)) (erV_at c.2.2.2.2 0 (z := "InvalidNumber") rfl rfl) (fun _ _ _ _ _ _ _ _ us its h1 h2 => match us, its, h1, h2 with | [_, _], [_], _, _ => ⟨_, rfl, rfl⟩)
  let er1 := err_ok (K := K) (file := fileS) (x := "InvalidCheck") (st := s_InvalidCheck___init__) (c.2.2.1 "InvalidCheck" (by decide +kernel)) (erV_at c.2.2.2.2 1 (z := "InvalidCheck") rfl rfl) (fun _ _ _ _ _ _ _ _ us its h1 h2 => match us, its, h1, h2 with | [_, _], [_], _, _ => ⟨_, rfl, rfl⟩)
  let er2 := err_ok (K := K) (file := fileS) (x := "InvalidPlaces") (st := s_InvalidPlaces___init__) (c.2.2.1 "InvalidPlaces" (by decide +kernel)) (erV_at c.2.2.2.2 2 (z := "InvalidPlaces") rfl rfl) (fun _ _ _ _ _ _ _ _ us its h1 h2 => match us, its, h1, h2 with | [_, _], [_], _, _ => ⟨_, rfl, rfl⟩)
  { C_InvalidNumber := _, gc_InvalidNumber := He.glo_ok X G (c.1.fact 53 (f := .glo "InvalidNumber") rfl), fi_InvalidNumber := _, fd_InvalidNumber := er0.choose, er_InvalidNumber := er0.choose_spec,
    C_InvalidCheck := _, gc_InvalidCheck := He.glo_ok X G (c.1.fact 54 (f := .glo "InvalidCheck") rfl), fi_InvalidCheck := _, fd_InvalidCheck := er1.choose, er_InvalidCheck := er1.choose_spec,
    C_InvalidPlaces := _, gc_InvalidPlaces := He.glo_ok X G (c.1.fact 55 (f := .glo "InvalidPlaces") rfl), fi_InvalidPlaces := _, fd_InvalidPlaces := er2.choose, er_InvalidPlaces := er2.choose_spec,
    C_SoundError := _, gc_SoundError := He.glo_ok X G (c.1.fact 56 (f := .glo "SoundError") rfl),
    em_InvalidNumber_SoundError := (emB_ok (c.2.2.2.1 ("InvalidNumber", "SoundError", true) (by decide +kernel))).1, ki_InvalidNumber_SoundError := (emB_ok (c.2.2.2.1 ("InvalidNumber", "SoundError", true) (by decide +kernel))).2.1,
    em_InvalidNumber_InvalidCheck := (emB_ok (c.2.2.2.1 ("InvalidNumber", "InvalidCheck", false) (by decide +kernel))).1, ki_InvalidNumber_InvalidCheck := (emB_ok (c.2.2.2.1 ("InvalidNumber", "InvalidCheck", false) (by decide +kernel))).2.1,
    em_InvalidNumber_InvalidNumber := (emB_ok (c.2.2.2.1 ("InvalidNumber", "InvalidNumber", true) (by decide +kernel))).1, ki_InvalidNumber_InvalidNumber := (emB_ok (c.2.2.2.1 ("InvalidNumber", "InvalidNumber", true) (by decide +kernel))).2.1,
    em_InvalidNumber_InvalidPlaces := (emB_ok (c.2.2.2.1 ("InvalidNumber", "InvalidPlaces", false) (by decide +kernel))).1, ki_InvalidNumber_InvalidPlaces := (emB_ok (c.2.2.2.1 ("InvalidNumber", "InvalidPlaces", false) (by decide +kernel))).2.1,
    em_InvalidCheck_SoundError := (emB_ok (c.2.2.2.1 ("InvalidCheck", "SoundError", true) (by decide +kernel))).1, ki_InvalidCheck_SoundError := (emB_ok (c.2.2.2.1 ("InvalidCheck", "SoundError", true) (by decide +kernel))).2.1,
    em_InvalidCheck_InvalidCheck := (emB_ok (c.2.2.2.1 ("InvalidCheck", "InvalidCheck", true) (by decide +kernel))).1, ki_InvalidCheck_InvalidCheck := (emB_ok (c.2.2.2.1 ("InvalidCheck", "InvalidCheck", true) (by decide +kernel))).2.1,
    em_InvalidCheck_InvalidNumber := (emB_ok (c.2.2.2.1 ("InvalidCheck", "InvalidNumber", false) (by decide +kernel))).1, ki_InvalidCheck_InvalidNumber := (emB_ok (c.2.2.2.1 ("InvalidCheck", "InvalidNumber", false) (by decide +kernel))).2.1,
    em_InvalidCheck_InvalidPlaces := (emB_ok (c.2.2.2.1 ("InvalidCheck", "InvalidPlaces", false) (by decide +kernel))).1, ki_InvalidCheck_InvalidPlaces := (emB_ok (c.2.2.2.1 ("InvalidCheck", "InvalidPlaces", false) (by decide +kernel))).2.1,
    em_InvalidPlaces_SoundError := (emB_ok (c.2.2.2.1 ("InvalidPlaces", "SoundError", true) (by decide +kernel))).1, ki_InvalidPlaces_SoundError := (emB_ok (c.2.2.2.1 ("InvalidPlaces", "SoundError", true) (by decide +kernel))).2.1,
    em_InvalidPlaces_InvalidCheck := (emB_ok (c.2.2.2.1 ("InvalidPlaces", "InvalidCheck", false) (by decide +kernel))).1, ki_InvalidPlaces_InvalidCheck := (emB_ok (c.2.2.2.1 ("InvalidPlaces", "InvalidCheck", false) (by decide +kernel))).2.1,
    em_InvalidPlaces_InvalidNumber := (emB_ok (c.2.2.2.1 ("InvalidPlaces", "InvalidNumber", false) (by decide +kernel))).1, ki_InvalidPlaces_InvalidNumber := (emB_ok (c.2.2.2.1 ("InvalidPlaces", "InvalidNumber", false) (by decide +kernel))).2.1,
    em_InvalidPlaces_InvalidPlaces := (emB_ok (c.2.2.2.1 ("InvalidPlaces", "InvalidPlaces", true) (by decide +kernel))).1, ki_InvalidPlaces_InvalidPlaces := (emB_ok (c.2.2.2.1 ("InvalidPlaces", "InvalidPlaces", true) (by decide +kernel))).2.1,
    kn_InvalidCheck := (emB_ok (c.2.2.2.1 ("InvalidNumber", "InvalidCheck", false) (by decide +kernel))).2.2.1,
    kn_InvalidNumber := (emB_ok (c.2.2.2.1 ("InvalidNumber", "InvalidNumber", true) (by decide +kernel))).2.2.1,
    kn_InvalidPlaces := (emB_ok (c.2.2.2.1 ("InvalidNumber", "InvalidPlaces", false) (by decide +kernel))).2.2.1,
    ei_InvalidNumber := ⟨(er0.choose_spec).xf, (emB_ok (c.2.2.2.1 ("InvalidNumber", "SoundError", true) (by decide +kernel))).2.2.2.1, (emB_ok (c.2.2.2.1 ("InvalidNumber", "SoundError", true) (by decide +kernel))).2.2.2.2.1, (emB_ok (c.2.2.2.1 ("InvalidNumber", "SoundError", true) (by decide +kernel))).2.2.2.2.2.1, (emB_ok (c.2.2.2.1 ("InvalidNumber", "SoundError", true) (by decide +kernel))).2.2.2.2.2.2.1⟩,
    kv_InvalidNumber := (emB_ok (c.2.2.2.1 ("InvalidNumber", "SoundError", true) (by decide +kernel))).2.2.2.2.2.2.2,
    ei_InvalidCheck := ⟨(er1.choose_spec).xf, (emB_ok (c.2.2.2.1 ("InvalidCheck", "SoundError", true) (by decide +kernel))).2.2.2.1, (emB_ok (c.2.2.2.1 ("InvalidCheck", "SoundError", true) (by decide +kernel))).2.2.2.2.1, (emB_ok (c.2.2.2.1 ("InvalidCheck", "SoundError", true) (by decide +kernel))).2.2.2.2.2.1, (emB_ok (c.2.2.2.1 ("InvalidCheck", "SoundError", true) (by decide +kernel))).2.2.2.2.2.2.1⟩,
    kv_InvalidCheck := (emB_ok (c.2.2.2.1 ("InvalidCheck", "SoundError", true) (by decide +kernel))).2.2.2.2.2.2.2,
    ei_InvalidPlaces := ⟨(er2.choose_spec).xf, (emB_ok (c.2.2.2.1 ("InvalidPlaces", "SoundError", true) (by decide +kernel))).2.2.2.1, (emB_ok (c.2.2.2.1 ("InvalidPlaces", "SoundError", true) (by decide +kernel))).2.2.2.2.1, (emB_ok (c.2.2.2.1 ("InvalidPlaces", "SoundError", true) (by decide +kernel))).2.2.2.2.2.1, (emB_ok (c.2.2.2.1 ("InvalidPlaces", "SoundError", true) (by decide +kernel))).2.2.2.2.2.2.1⟩,
    kv_InvalidPlaces := (emB_ok (c.2.2.2.1 ("InvalidPlaces", "SoundError", true) (by decide +kernel))).2.2.2.2.2.2.2,
    C_Check := _, gc_Check := He.glo_ok X G (c.1.fact 47 (f := .glo "Check") rfl), cl_Check := He.cls_ok (c.1.fact 48 (f := .cls "Check") rfl), ic_Check := insB_ok (x := "Check") (He.cls_ok (c.1.fact 48 (f := .cls "Check") rfl)) (List.all_eq_true.mp (Bool.and_eq_true_iff.mp c.2.1).1 "Check" (by decide +kernel)),
    kx_Check := insN_ok (x := "Check") (List.all_eq_true.mp (Bool.and_eq_true_iff.mp c.2.1).1 "Check" (by decide +kernel)),
    na_Check_size := He.noat_ok (c.1.fact 49 (f := .noat "Check" "size") rfl),
    na_Check_tail := He.noat_ok (c.1.fact 50 (f := .noat "Check" "tail") rfl),
    f_is_whole := _, fd_is_whole := p0.choose, F_is_whole := p0.choose_spec, b_is_whole := p0.choose_spec.bindsN fun _ _ _ _ _ _ us hl => match us, hl with | [_], _ => rfl, g_is_whole := He.glo_ok X G (c.1.fact 0 (f := .glo "is_whole") rfl),
    f_is_between := _, fd_is_between := p1.choose, F_is_between := p1.choose_spec, b_is_between := p1.choose_spec.bindsN fun _ _ _ _ _ _ us hl => match us, hl with | [_, _, _], _ => rfl, g_is_between := He.glo_ok X G (c.1.fact 1 (f := .glo "is_between") rfl),
    f_check_number := _, fd_check_number := p2.choose, F_check_number := p2.choose_spec, b_check_number := p2.choose_spec.bindsN fun _ _ _ _ _ _ us hl => match us, hl with | [_, _, _], _ => rfl, g_check_number := He.glo_ok X G (c.1.fact 2 (f := .glo "check_number") rfl),
    f_sum_of := _, fd_sum_of := p3.choose, F_sum_of := p3.choose_spec, b_sum_of := p3.choose_spec.bindsN fun _ _ _ _ _ _ us hl => match us, hl with | [_], _ => rfl, g_sum_of := He.glo_ok X G (c.1.fact 3 (f := .glo "sum_of") rfl),
    f_check_check := _, fd_check_check := p4.choose, F_check_check := p4.choose_spec, b_check_check := p4.choose_spec.bindsN fun _ _ _ _ _ _ us hl => match us, hl with | [_], _ => rfl, g_check_check := He.glo_ok X G (c.1.fact 4 (f := .glo "check_check") rfl),
    f_are_places := _, fd_are_places := p5.choose, F_are_places := p5.choose_spec, b_are_places := p5.choose_spec.bindsN fun _ _ _ _ _ _ us hl => match us, hl with | [_], _ => rfl, g_are_places := He.glo_ok X G (c.1.fact 5 (f := .glo "are_places") rfl),
    f_check_places := _, fd_check_places := p6.choose, F_check_places := p6.choose_spec, b_check_places := p6.choose_spec.bindsN fun _ _ _ _ _ _ us hl => match us, hl with | [_], _ => rfl, g_check_places := He.glo_ok X G (c.1.fact 6 (f := .glo "check_places") rfl),
    f_shifted := _, fd_shifted := p7.choose, F_shifted := p7.choose_spec, b_shifted := p7.choose_spec.bindsN fun _ _ _ _ _ _ us hl => match us, hl with | [_, _], _ => rfl, g_shifted := He.glo_ok X G (c.1.fact 7 (f := .glo "shifted") rfl),
    f_rest_of := _, fd_rest_of := p8.choose, F_rest_of := p8.choose_spec, b_rest_of := p8.choose_spec.bindsN fun _ _ _ _ _ _ us hl => match us, hl with | [_, _], _ => rfl, g_rest_of := He.glo_ok X G (c.1.fact 8 (f := .glo "rest_of") rfl),
    f_rest_times := _, fd_rest_times := p9.choose, F_rest_times := p9.choose_spec, b_rest_times := p9.choose_spec.bindsN fun _ _ _ _ _ _ us hl => match us, hl with | [_, _, _], _ => rfl, g_rest_times := He.glo_ok X G (c.1.fact 9 (f := .glo "rest_times") rfl),
    f_power_of := _, fd_power_of := p10.choose, F_power_of := p10.choose_spec, b_power_of := p10.choose_spec.bindsN fun _ _ _ _ _ _ us hl => match us, hl with | [_, _], _ => rfl, g_power_of := He.glo_ok X G (c.1.fact 10 (f := .glo "power_of") rfl),
    f_sum_at := _, fd_sum_at := p11.choose, F_sum_at := p11.choose_spec, b_sum_at := p11.choose_spec.bindsN fun _ _ _ _ _ _ us hl => match us, hl with | [_, _], _ => rfl, g_sum_at := He.glo_ok X G (c.1.fact 11 (f := .glo "sum_at") rfl),
    f_unseen := _, fd_unseen := p12.choose, F_unseen := p12.choose_spec, b_unseen := p12.choose_spec.bindsN fun _ _ _ _ _ _ us hl => match us, hl with | [_, _], _ => rfl, g_unseen := He.glo_ok X G (c.1.fact 12 (f := .glo "unseen") rfl),
    f_ones_in := _, fd_ones_in := p13.choose, F_ones_in := p13.choose_spec, b_ones_in := p13.choose_spec.bindsN fun _ _ _ _ _ _ us hl => match us, hl with | [_], _ => rfl, g_ones_in := He.glo_ok X G (c.1.fact 13 (f := .glo "ones_in") rfl),
    f_shapes_of := _, fd_shapes_of := p14.choose, F_shapes_of := p14.choose_spec, b_shapes_of := p14.choose_spec.bindsN fun _ _ _ _ _ _ us hl => match us, hl with | [_, _], _ => rfl, g_shapes_of := He.glo_ok X G (c.1.fact 14 (f := .glo "shapes_of") rfl),
    f_how_many_shapes := _, fd_how_many_shapes := p15.choose, F_how_many_shapes := p15.choose_spec, b_how_many_shapes := p15.choose_spec.bindsN fun _ _ _ _ _ _ us hl => match us, hl with | [_, _], _ => rfl, g_how_many_shapes := He.glo_ok X G (c.1.fact 15 (f := .glo "how_many_shapes") rfl),
    f_shape_at := _, fd_shape_at := p16.choose, F_shape_at := p16.choose_spec, b_shape_at := p16.choose_spec.bindsN fun _ _ _ _ _ _ us hl => match us, hl with | [_, _, _], _ => rfl, g_shape_at := He.glo_ok X G (c.1.fact 16 (f := .glo "shape_at") rfl),
    f_shape_number := _, fd_shape_number := p17.choose, F_shape_number := p17.choose_spec, b_shape_number := p17.choose_spec.bindsN fun _ _ _ _ _ _ us hl => match us, hl with | [_, _], _ => rfl, g_shape_number := He.glo_ok X G (c.1.fact 17 (f := .glo "shape_number") rfl),
    f_law_hash := _, fd_law_hash := p18.choose, F_law_hash := p18.choose_spec, b_law_hash := p18.choose_spec.bindsN fun _ _ _ _ _ _ us hl => match us, hl with | [_, _], _ => rfl, g_law_hash := He.glo_ok X G (c.1.fact 18 (f := .glo "_law_hash") rfl),
    f_law_random := _, fd_law_random := p19.choose, F_law_random := p19.choose_spec, b_law_random := p19.choose_spec.bindsN fun _ _ _ _ _ _ us hl => match us, hl with | [_, _], _ => rfl, g_law_random := He.glo_ok X G (c.1.fact 19 (f := .glo "_law_random") rfl),
    f_law_cell := _, fd_law_cell := p20.choose, F_law_cell := p20.choose_spec, b_law_cell := p20.choose_spec.bindsN fun _ _ _ _ _ _ us hl => match us, hl with | [_, _], _ => rfl, g_law_cell := He.glo_ok X G (c.1.fact 20 (f := .glo "_law_cell") rfl),
    f_law_generator := _, fd_law_generator := p21.choose, F_law_generator := p21.choose_spec, b_law_generator := p21.choose_spec.bindsN fun _ _ _ _ _ _ us hl => match us, hl with | [_, _], _ => rfl, g_law_generator := He.glo_ok X G (c.1.fact 21 (f := .glo "_law_generator") rfl),
    f_law_rest := _, fd_law_rest := p22.choose, F_law_rest := p22.choose_spec, b_law_rest := p22.choose_spec.bindsN fun _ _ _ _ _ _ us hl => match us, hl with | [_, _], _ => rfl, g_law_rest := He.glo_ok X G (c.1.fact 22 (f := .glo "_law_rest") rfl),
    f_law_drawn := _, fd_law_drawn := p23.choose, F_law_drawn := p23.choose_spec, b_law_drawn := p23.choose_spec.bindsN fun _ _ _ _ _ _ us hl => match us, hl with | [_, _], _ => rfl, g_law_drawn := He.glo_ok X G (c.1.fact 23 (f := .glo "_law_drawn") rfl),
    f_law_places := _, fd_law_places := p24.choose, F_law_places := p24.choose_spec, b_law_places := p24.choose_spec.bindsN fun _ _ _ _ _ _ us hl => match us, hl with | [_], _ => rfl, g_law_places := He.glo_ok X G (c.1.fact 24 (f := .glo "_law_places") rfl),
    f_law_small_right := _, fd_law_small_right := p25.choose, F_law_small_right := p25.choose_spec, b_law_small_right := p25.choose_spec.bindsN fun _ _ _ _ _ _ us hl => match us, hl with | [_, _, _], _ => rfl, g_law_small_right := He.glo_ok X G (c.1.fact 25 (f := .glo "_law_small_right") rfl),
    f_law_great_right := _, fd_law_great_right := p26.choose, F_law_great_right := p26.choose_spec, b_law_great_right := p26.choose_spec.bindsN fun _ _ _ _ _ _ us hl => match us, hl with | [_, _, _, _], _ => rfl, g_law_great_right := He.glo_ok X G (c.1.fact 26 (f := .glo "_law_great_right") rfl),
    f_law_caught := _, fd_law_caught := p27.choose, F_law_caught := p27.choose_spec, b_law_caught := p27.choose_spec.bindsN fun _ _ _ _ _ _ us hl => match us, hl with | [_, _, _, _], _ => rfl, g_law_caught := He.glo_ok X G (c.1.fact 27 (f := .glo "_law_caught") rfl),
    f_law_refused := _, fd_law_refused := p28.choose, F_law_refused := p28.choose_spec, b_law_refused := p28.choose_spec.bindsN fun _ _ _ _ _ _ us hl => match us, hl with | [_, _, _], _ => rfl, g_law_refused := He.glo_ok X G (c.1.fact 28 (f := .glo "_law_refused") rfl),
    f_law := _, fd_law := p29.choose, F_law := p29.choose_spec, b_law := p29.choose_spec.bindsN fun _ _ _ _ _ _ us hl => match us, hl with | [_], _ => rfl, g_law := He.glo_ok X G (c.1.fact 29 (f := .glo "law") rfl),
    f_Check___init__ := _, fd_Check___init__ := p30.choose, F_Check___init__ := p30.choose_spec, b_Check___init__ := p30.choose_spec.bindsN fun _ _ _ _ _ _ us hl => match us, hl with | [_, _, _], _ => rfl, me_Check___init__ := He.meth_ok (c.1.fact 52 (f := .meth "Check" "__init__") rfl), mk_Check := He.mkr_ok (c.1.fact 51 (f := .mkr "Check") rfl),
    n_len := He.free_ok X G (c.1.fact 30 (f := .free "len") rfl),
    n_sum := He.free_ok X G (c.1.fact 31 (f := .free "sum") rfl),
    n_max := He.free_ok X G (c.1.fact 32 (f := .free "max") rfl),
    n_int := He.free_ok X G (c.1.fact 33 (f := .free "int") rfl),
    n_bool := He.free_ok X G (c.1.fact 34 (f := .free "bool") rfl),
    n_list := He.free_ok X G (c.1.fact 35 (f := .free "list") rfl),
    n_range := He.free_ok X G (c.1.fact 36 (f := .free "range") rfl),
    n_isinstance := He.free_ok X G (c.1.fact 37 (f := .free "isinstance") rfl),
    n_zip := He.free_ok X G (c.1.fact 38 (f := .free "zip") rfl),
    n_sorted := He.free_ok X G (c.1.fact 39 (f := .free "sorted") rfl),
    n_repr := He.free_ok X G (c.1.fact 40 (f := .free "repr") rfl),
    n_all := He.free_ok X G (c.1.fact 41 (f := .free "all") rfl),
    n_super := He.free_ok X G (c.1.fact 42 (f := .free "super") rfl),
    n_ValueError := He.free_ok X G (c.1.fact 43 (f := .free "ValueError") rfl),
    t_MOST_WIDTH := q0.choose, m_MOST_WIDTH := q0.choose_spec,
    t_MOST_PLACE := q1.choose, m_MOST_PLACE := q1.choose_spec,
    t_MOST_SPAN := q2.choose, m_MOST_SPAN := q2.choose_spec }
theorem G_InvalidNumber___init__ {P : Program} {w : World} {K : PySem.W.Frag} {mg : Str → Option Value} {base : Heap} {CX : CXT} [Sup.PF P fileS] (T : Top K mg) : FnOk P w K mg base CX 1 T.fi_InvalidNumber T.fd_InvalidNumber ["self", "value"] (Sup.sp_exc_init T.C_InvalidNumber) := Sup.fn_sup nsc_InvalidNumber (by decide +kernel) sb_InvalidNumber T.er_InvalidNumber.sup T.n_super
theorem G_InvalidCheck___init__ {P : Program} {w : World} {K : PySem.W.Frag} {mg : Str → Option Value} {base : Heap} {CX : CXT} [Sup.PF P fileS] (T : Top K mg) : FnOk P w K mg base CX 1 T.fi_InvalidCheck T.fd_InvalidCheck ["self", "value"] (Sup.sp_exc_init T.C_InvalidCheck) := Sup.fn_sup nsc_InvalidCheck (by decide +kernel) sb_InvalidCheck T.er_InvalidCheck.sup T.n_super
theorem G_InvalidPlaces___init__ {P : Program} {w : World} {K : PySem.W.Frag} {mg : Str → Option Value} {base : Heap} {CX : CXT} [Sup.PF P fileS] (T : Top K mg) : FnOk P w K mg base CX 1 T.fi_InvalidPlaces T.fd_InvalidPlaces ["self", "value"] (Sup.sp_exc_init T.C_InvalidPlaces) := Sup.fn_sup nsc_InvalidPlaces (by decide +kernel) sb_InvalidPlaces T.er_InvalidPlaces.sup T.n_super
end My

set_option exponentiation.threshold 100000
namespace My
open PySem PySem.Spec PyProof.Rows L2 Pre
section
variable {P : Program} {w : World} {K : PySem.W.Frag} {mg : Str → Option Value} {base : Heap}
/-! ### the law's draws -/
/-- a generator: its count is at most n -/
def GenAt (H : Hp) (g : Addr) (n : Nat) : Prop := ∃ x y z : Int, H g = some (.lst [.int x, .int y, .int z]) ∧ 0 ≤ z ∧ z ≤ (n : Int)
/-- all but one thing stand as they stood -/
def But (g : Addr) (H H' : Hp) : Prop := ∀ b o, b ≠ g → H b = some o → H' b = some o
theorem But.refl {g : Addr} {H : Hp} : But g H H := fun _ _ _ h => h
theorem But.trans {g : Addr} {H H1 H2 : Hp} (a : But g H H1) (b : But g H1 H2) : But g H H2 := fun c o n h => b c o n (a c o n h)
theorem But.same {g : Addr} {H H1 H2 : Hp} (a : But g H H1) (b : Same H1 H2) : But g H H2 := fun c o n h => b c o (a c o n h)
theorem But.of {g : Addr} {H H1 : Hp} (b : Same H H1) : But g H H1 := fun c o _ h => b c o h
theorem But.upd {g : Addr} {H H1 : Hp} {o : HO} (a : But g H H1) : But g H (upd H1 g o) := fun c u n h => by
  rw [upd_ne n]
  exact a c u n h
theorem But.free {g : Addr} {H H1 : Hp} (a : But g H H1) {p : Addr} (n : p ≠ g) (h : H1 p = none) : H p = none := by
  cases e : H p with
  | none => rfl
  | some o => rw [a p o n e] at h; cases h
/-- what is changed was not there at first -/
theorem But.fresh {g : Addr} {H H1 H2 : Hp} (s : Same H H1) (n : H g = none) (b : But g H1 H2) : Same H H2 := fun c o h => b c o (ne_of_none h n) (s c o h)
theorem GenAt.mono {H : Hp} {g : Addr} {n m : Nat} (h : GenAt H g n) (l : n ≤ m) : GenAt H g m := by
  obtain ⟨x, y, z, a, b, c⟩ := h
  exact ⟨x, y, z, a, b, by omega⟩
theorem GenAt.same {H H' : Hp} {g : Addr} {n : Nat} (h : GenAt H g n) (s : Same H H') : GenAt H' g n := by
  obtain ⟨x, y, z, a, b⟩ := h
  exact ⟨x, y, z, s _ _ a, b⟩
theorem GenAt.ne {H : Hp} {g : Addr} {n : Nat} {p : Addr} (h : GenAt H g n) (np : H p = none) : p ≠ g := by
  obtain ⟨x, y, z, a, _⟩ := h
  exact (ne_of_none a np).symm
theorem small_2900 {b : Int} (h : b ≤ 2 ^ 60) : b < 2 ^ 2900 := by omega
theorem pow_pos' (w : Nat) : (0 : Int) < 2 ^ w := Int.pow_pos (by decide)
theorem pow2_le {k m : Nat} (h : k ≤ m) : (2 : Int) ^ k ≤ 2 ^ m := by
  have e := Nat.pow_le_pow_right (show 0 < 2 by decide) h
  have e2 : ((2 ^ k : Nat) : Int) ≤ ((2 ^ m : Nat) : Int) := Int.ofNat_le.mpr e
  rw [Int.natCast_pow, Int.natCast_pow] at e2
  exact e2
def sp_law_cell (K : PySem.W.Frag) : Sp := fun vs H Q _ => ∃ (a : Addr) (ns : List Int) (i : Nat), vs = [.ref a, .int i] ∧ SqL K H a (ns.map V.int) ∧ ∀ (n : Int) H', Same H H' → Q (.int n) H'
theorem G_law_cell (T : Top K mg) : FnOk P w K mg base CX0 1 T.f_law_cell T.fd_law_cell ["_law_script", "_law_index"] (sp_law_cell K) := by
  refine T.F_law_cell.ok sc_law_cell (fun vs H Q E h => by obtain ⟨a, ns, i, rfl, _⟩ := h; rfl) (fun cdv A outer s H vs Q E hr h => ?_)
  obtain ⟨a, ns, i, rfl, hS, q⟩ := h
  refine ⟨_, PSs.nox (pss_cons (ps_if (pt_cmpR op_lt (pv 1) (pe_callB (k_len K rfl) (by rfl) T.n_len (by decide +kernel) (pa_cons (pv 0) pa_nil)) (nomark _))
    (pss_one (ps_ret (pe_ix (k_ixL K rfl) (pv 0) (pv 1) (fun _ _ => rfl))))
    pss_nil)
  (pss_one (ps_ret (pe_op op_mod (pe_callB (k_sum K rfl rfl) (by rfl) T.n_sum (by decide +kernel) (pa_cons (pe_slice (k_slL K rfl) (pv 0) po_none (po_some pe_int)) pa_nil)) pe_int)))), ?_⟩
  refine ⟨_, rfl, _, rfl, a, _, rfl, .inl hS, _, _, rfl, rfl, _, rfl, ite2 (fun e => ?_) (fun e => ?_)⟩
  · have e1 : (i : Int) < (((ns.map V.int).length : Nat) : Int) := of_decide_eq_true e
    rw [List.length_map] at e1
    have hi : i < ns.length := by omega
    refine ⟨_, rfl, _, rfl, a, _, _, .int ns[i], rfl, rfl, hS, atI_nat (by rw [List.getElem?_map, List.getElem?_eq_getElem hi]; rfl), ?_⟩
    exact q _ _ (Same.refl _)
  · refine ⟨_, rfl, _, rfl, a, _, rfl, hS, fun p np => ?_⟩
    have ec : ∃ ms : List Int, cutV (ns.map V.int) none (some 1) = ms.map V.int := by
      unfold cutV
      exact ⟨(ns.drop (HT.sIx (ns.map V.int).length 0 none)).take (HT.sIx (ns.map V.int).length (ns.map V.int).length (some 1) - HT.sIx (ns.map V.int).length 0 none), by rw [List.map_take, List.map_drop]⟩
    obtain ⟨ms, em⟩ := ec
    refine ⟨p, ms, rfl, .inl (.inl (by rw [upd_same, em])), _, _, rfl, rfl, (by show (0 : Int) < 1000003; decide), ?_⟩
    exact q _ _ (same_upd np)
theorem cmul_mod (x m j : Int) (h0 : 0 < m) (h1 : m ≤ 2 ^ 60) : CMul (x % m) j := by
  have a := Int.emod_nonneg x (show m ≠ 0 by omega)
  have b := Int.emod_lt_of_pos x h0
  exact .inl ⟨by omega, by omega⟩
def sp_law_hash : Sp := fun vs H Q _ => ∃ i j : Int, vs = [.int i, .int j] ∧ 0 ≤ j ∧ j < 2 ^ 60 ∧ ∀ n : Int, Q (.int n) H
theorem G_law_hash (T : Top K mg) : FnOk P w K mg base CX0 1 T.f_law_hash T.fd_law_hash ["_law_seed", "_law_index"] sp_law_hash := by
  refine T.F_law_hash.ok sc_law_hash (fun vs H Q E h => by obtain ⟨i, j, rfl, _⟩ := h; rfl) (fun cdv A outer s H vs Q E hr h => ?_)
  obtain ⟨i, j, rfl, h0, h1, q⟩ := h
  refine ⟨_, PSs.nox (pss_cons (ps_set (i := 2) sc_law_hash.nd rfl (by first | exact Or.inl rfl | exact Or.inr rfl) (pe_op op_mod (pe_callTy call_int1 (by rfl) T.n_int (by decide +kernel) (pa_cons (pe_op op_add (pe_op op_add (pe_op op_add (pe_op op_mul (pv 0) pe_int) (pe_op op_mul (pe_op op_mul pe_int (pv 1)) (pv 1))) (pe_op op_mul pe_int (pv 1))) pe_int) pa_nil)) pe_int))
  (pss_cons (ps_set (i := 2) sc_law_hash.nd rfl (by first | exact Or.inl rfl | exact Or.inr rfl) (pe_op op_mod (pe_callTy call_int1 (by rfl) T.n_int (by decide +kernel) (pa_cons (pe_op op_add (pe_op op_add (pe_op op_mul (pv 2) (pv 2)) (pe_op op_mul pe_int (pv 1))) pe_int) pa_nil)) pe_int))
  (pss_one (ps_ret (pe_op op_mod (pe_callTy call_int1 (by rfl) T.n_int (by decide +kernel) (pa_cons (pe_op op_mul (pv 2) pe_int) pa_nil)) pe_int))))), ?_⟩
  refine ⟨_, rfl, _, _, rfl, rfl, .inr ⟨by decide, by decide⟩, _, rfl, _, _, rfl, rfl, .inl ⟨by decide, by decide⟩, _, rfl, _, _, rfl, rfl, .inr ⟨by omega, by omega⟩, _, _, rfl, rfl, _, rfl, _, _, rfl, rfl, .inl ⟨by decide, by decide⟩, _, _, rfl, rfl, _, _, rfl, rfl,
    .inl ⟨_, rfl, _, _, rfl, rfl, (by show (0 : Int) < _; decide), ?_⟩⟩
  refine ⟨_, rfl, _, rfl, _, _, rfl, rfl, cmul_mod _ _ _ (by decide) (by decide), _, rfl, _, _, rfl, rfl, .inl ⟨by decide, by decide⟩, _, _, rfl, rfl, _, _, rfl, rfl, .inl ⟨_, rfl, _, _, rfl, rfl, (by show (0 : Int) < _; decide), ?_⟩⟩
  refine ⟨_, rfl, _, _, rfl, rfl, .inr ⟨by decide, by decide⟩, .inl ⟨_, rfl, _, _, rfl, rfl, (by show (0 : Int) < _; decide), ?_⟩⟩
  exact q _

def sp_law_generator (K : PySem.W.Frag) : Sp := fun vs H Q _ => ∃ (a : Addr) (ns : List Int) (i : Nat), vs = [.ref a, .int i] ∧ SqL K H a (ns.map V.int) ∧ ∀ H' g, Same H H' → H g = none → GenAt H' g (1000 * i) → Q (.ref g) H'
theorem G_law_generator (T : Top K mg) : FnOk P w K mg base CX0 2 T.f_law_generator T.fd_law_generator ["_law_script", "_law_index"] (sp_law_generator K) := by
  refine T.F_law_generator.ok sc_law_generator (fun vs H Q E h => by obtain ⟨a, ns, i, rfl, _⟩ := h; rfl) (fun cdv A outer s H vs Q E hr h => ?_)
  obtain ⟨a, ns, i, rfl, hS, q⟩ := h
  refine ⟨_, PSs.nox (pss_cons (ps_set (i := 2) sc_law_generator.nd rfl (by first | exact Or.inl rfl | exact Or.inr rfl) (pe_call (G_law_cell (P := P) T) (hr.mono (by decide)) (by rfl) T.g_law_cell T.F_law_cell.kp T.b_law_cell .nil pass0 (pa_cons (pv 0) (pa_cons (pv 1) pa_nil))))
  (pss_one (ps_ret (pe_lst (pa_cons (pe_op op_mod (pe_callTy call_int1 (by rfl) T.n_int (by decide +kernel) (pa_cons (pe_callB (call_max2 rfl) (by rfl) T.n_max (by decide +kernel) (pa_cons (pe_op op_sub (pv 2) (pe_op op_powW pe_int pe_int)) (pa_cons pe_int pa_nil))) pa_nil)) (pe_op op_powW (pe_op op_powW pe_int pe_int) pe_int)) (pa_cons (pe_op op_mod (pe_callTy call_int1 (by rfl) T.n_int (by decide +kernel) (pa_cons (pv 2) pa_nil)) pe_int) (pa_cons (pe_op op_mul pe_int (pv 1)) pa_nil))))))), ?_⟩
  refine ⟨_, rfl, _, rfl, a, ns, i, rfl, hS, fun n H1 s1 => ?_⟩
  refine ⟨_, rfl, _, _, rfl, rfl, ⟨by decide, by decide +kernel⟩, _, _, rfl, rfl, _, _, rfl, .inl ⟨_, rfl, _, _, rfl, rfl, ⟨by decide, by decide +kernel⟩, _, _, rfl, rfl, ⟨by decide, by decide +kernel⟩, _, _, rfl, rfl, (by show (0 : Int) < _; decide +kernel), ?_⟩⟩
  refine ⟨_, rfl, .inl ⟨_, rfl, _, _, rfl, rfl, (by show (0 : Int) < _; decide), ?_⟩⟩
  refine ⟨_, rfl, _, _, rfl, rfl, .inl ⟨by decide, by decide⟩, (show 3 ≤ sizeLine by decide), fun g ng => ?_⟩
  exact q _ g (s1.trans (same_upd ng)) (s1.free ng) ⟨_, _, _, upd_same, by omega, by omega⟩
def sp_law_random : Sp := fun vs H Q _ => ∃ (g : Addr) (b : Int) (n : Nat), vs = [.ref g, .int b] ∧ GenAt H g n ∧ n ≤ 10 ^ 12 ∧ 0 < b ∧ b < 2 ^ 2900 ∧ ∀ (d : Int) H', 0 ≤ d → d < b → GenAt H' g (n + 100) → But g H H' → Q (.int d) H'
theorem G_law_random (T : Top K mg) : FnOk P w K mg base CX0 2 T.f_law_random T.fd_law_random ["_law_generator_here", "_law_bound"] sp_law_random := by
  refine T.F_law_random.ok sc_law_random (fun vs H Q E h => by obtain ⟨g, b, n, rfl, _⟩ := h; rfl) (fun cdv A outer s H vs Q E hr h => ?_)
  obtain ⟨g, b, n, rfl, ⟨x, y, z, hg, z0, z1⟩, hn, b0, b1, q⟩ := h
  refine ⟨_, PSs.nox (pss_cons (ps_if (pt_cmpR op_gt (pe_ix (k_ixL K rfl) (pv 0) pe_int (fun _ _ => rfl)) pe_int (nomark _))
    (pss_cons (ps_set (i := 2) sc_law_random.nd rfl (by first | exact Or.inl rfl | exact Or.inr rfl) (pe_op op_mod (pe_callTy call_int1 (by rfl) T.n_int (by decide +kernel) (pa_cons (pe_ix (k_ixL K rfl) (pv 0) pe_int (fun _ _ => rfl)) pa_nil)) (pv 1)))
  (pss_cons (ps_asg (pe_op op_fdivW (pe_ix (k_ixL K rfl) (pv 0) pe_int (fun _ _ => rfl)) (pv 1)) (pg_sub (pv 0) pe_int set_list))
  (pss_one (ps_ret (pv 2)))))
    pss_nil)
  (pss_cons (ps_set (i := 2) sc_law_random.nd rfl (by first | exact Or.inl rfl | exact Or.inr rfl) pe_int)
  (pss_cons (ps_for PassesOwn.never rfl (pi_range1 (by rfl) T.n_range (pa_cons (pe_op op_add pe_int (pe_op op_fdivW (pe_bits (pv 1)) pe_int)) pa_nil)) (pg_name (i := 3) sc_law_random.nd rfl (by first | exact Or.inl rfl | exact Or.inr rfl))
    (pss_cons (ps_asg (pe_op op_add (pe_ix (k_ixL K rfl) (pv 0) pe_int (fun _ _ => rfl)) pe_int) (pg_sub (pv 0) pe_int set_list))
  (pss_one (ps_set (i := 2) sc_law_random.nd rfl (by first | exact Or.inl rfl | exact Or.inr rfl) (pe_op op_add (pe_op op_mul (pv 2) pe_int) (pe_call (G_law_hash (P := P) T) (hr.mono (by decide)) (by rfl) T.g_law_hash T.F_law_hash.kp T.b_law_hash .nil pass0 (pa_cons (pe_ix (k_ixL K rfl) (pv 0) pe_int (fun _ _ => rfl)) (pa_cons (pe_ix (k_ixL K rfl) (pv 0) pe_int (fun _ _ => rfl)) pa_nil))))))))
  (pss_one (ps_ret (pe_op op_mod (pe_callTy call_int1 (by rfl) T.n_int (by decide +kernel) (pa_cons (pv 2) pa_nil)) (pv 1))))))), ?_⟩
  have a0 : ∀ x y z : Int, atI [V.int x, .int y, .int z] 0 = some (.int x) := fun _ _ _ => rfl
  have a1 : ∀ x y z : Int, atI [V.int x, .int y, .int z] 1 = some (.int y) := fun _ _ _ => rfl
  have a2 : ∀ x y z : Int, atI [V.int x, .int y, .int z] 2 = some (.int z) := fun _ _ _ => rfl
  have hS : SqL K H g [.int x, .int y, .int z] := .inl (.inl hg)
  have nb : b.natAbs < 2 ^ 2900 := by
    have e : ((b.natAbs : Nat) : Int) < ((2 ^ 2900 : Nat) : Int) := by
      rw [Int.natCast_pow]
      omega
    exact Int.ofNat_lt.mp e
  refine ⟨_, rfl, g, _, 0, _, rfl, rfl, hS, a0 x y z, _, _, rfl, rfl, _, rfl, ite2 (fun e => ?_) (fun e => ?_)⟩
  · refine ⟨_, rfl, g, _, 0, _, rfl, rfl, hS, a0 x y z, .inl ⟨_, rfl, _, rfl, _, _, rfl, rfl, b0, ?_⟩⟩
    refine ⟨_, rfl, g, _, 0, _, rfl, rfl, hS, a0 x y z, _, rfl, _, _, rfl, rfl, wide_div b0 nb (by decide) (by decide), _, rfl, g, _, 0, 0, rfl, rfl, hg, rfl, _, rfl, ?_⟩
    exact q _ _ (Int.emod_nonneg _ (by omega)) (Int.emod_lt_of_pos _ b0) ⟨_, _, _, upd_same, z0, by omega⟩ (But.upd But.refl)
  · have hb : Builtin.Int.intBits b ≤ 2900 := PyProof.Rows.intBits_le nb
    have hq0 : (0 : Int) ≤ ((Builtin.Int.intBits b : Nat) : Int) / 30 := Int.ediv_nonneg (Int.natCast_nonneg _) (by decide)
    have hq1 : ((Builtin.Int.intBits b : Nat) : Int) / 30 ≤ 97 := by omega
    refine ⟨_, rfl, _, rfl, _, _, rfl, rfl, ⟨by decide, by decide +kernel⟩, _, _, rfl, rfl, _, rfl, by omega, by omega, ?_⟩
    refine for_range (lo := 0) (n := (1 + ((Builtin.Int.intBits b : Nat) : Int) / 30).toNat) (fun i σ H1 => ∃ (d z' : Int) (v : Option V), σ = [some (.ref g), some (.int b), some (.int d), v] ∧ H1 g = some (.lst [.int x, .int y, .int z']) ∧ 0 ≤ z' ∧ z' ≤ (n : Int) + (i : Int) ∧ But g H H1)
      ⟨0, z, none, rfl, hg, z0, by omega, But.refl⟩ ?_ ?_
    · rintro i σ H1 hi ⟨d, z', v, rfl, hg1, y0, y1, b1⟩
      have hS1 : SqL K H1 g [.int x, .int y, .int z'] := .inl (.inl hg1)
      refine ⟨_, rfl, g, _, 2, _, rfl, rfl, hS1, a2 x y z', _, _, rfl, rfl, _, rfl, g, _, 2, 2, rfl, rfl, hg1, rfl, ?_⟩
      have hS2 : SqL K (upd H1 g (.lst [.int x, .int y, .int (z' + 1)])) g [.int x, .int y, .int (z' + 1)] := .inl (.inl upd_same)
      refine ⟨_, rfl, _, _, rfl, rfl, .inr ⟨by decide, by decide⟩, _, rfl, g, _, 1, _, rfl, rfl, hS2, a1 _ _ _, _, rfl, g, _, 2, _, rfl, rfl, hS2, a2 _ _ _, _, _, rfl, by omega, by omega, fun r => ?_⟩
      exact ⟨_, _, rfl, rfl, _, z' + 1, _, rfl, upd_same, by omega, by omega, But.upd b1⟩
    · rintro σ H1 ⟨d, z', v, rfl, hg1, y0, y1, b1⟩
      refine ⟨_, rfl, .inl ⟨_, rfl, _, rfl, _, _, rfl, rfl, b0, ?_⟩⟩
      exact q _ _ (Int.emod_nonneg _ (by omega)) (Int.emod_lt_of_pos _ b0) ⟨_, _, _, hg1, y0, by omega⟩ b1
/-- a comprehension over a range that draws whole numbers -/
theorem lc_drawR {lo : Int} {n : Nat} {j : Nat} {te : TE} {vs : List Nat} {σ : L2.St} {H1 : Hp} {D : Addr} {Qd : Hp → Prop} (g : Addr) (m step : Nat) (P : Int → Prop) (nD : H1 D = none) (hG : GenAt H1 g m) (hz : n < sizeLine)
    (hw : ∀ x, wipe ((wipe σ vs).set j (some x)) vs = wipe σ vs)
    (hs : ∀ (i : Nat) (H' : Hp), i < n → But g H1 H' → GenAt H' g (m + step * i) → ∀ Qt : V → Hp → Prop, (∀ (y : Int) H'', P y → But g H' H'' → GenAt H'' g (m + step * (i + 1)) → Qt (.int y) H'') → te ((wipe σ vs).set j (some (.int (lo + (i : Int))))) H' Qt)
    (hd : ∀ H' (ys : List Int), But g H1 H' → GenAt H' g (m + step * n) → H' D = some (.lst (ys.map V.int)) → ys.length = n → (∀ y ∈ ys, P y) → Qd H') :
    ∃ W : Nat → Nat → Hp → Prop, (∃ m, W 0 m (upd H1 D (.lst []))) ∧ ∀ i m H, W i m H →
      ((Itr lo n).stop i H ∧ Qd H) ∨ ((Itr lo n).go i H ∧ ∃ Nx : Hp → Prop, (∀ H', Nx H' → ∃ m', m' < m ∧ W (i + 1) m' H') ∧ ∀ x H', (Itr lo n).yld i H x H' → gName j x (wipe σ vs) H' fun σ2 H2 => wipe σ2 vs = wipe σ vs ∧ tYes σ2 H2 fun b H3 =>
        if b = true then te σ2 H3 fun y H4 => ∃ acc, H4 D = some (.lst acc) ∧ acc.length < sizeLine ∧ Nx (upd H4 D (.lst (acc ++ [y]))) else Nx H3) := by
  have nDg : D ≠ g := hG.ne nD
  refine lc_range (lo := lo) (n := n) (fun i H => ∃ ys : List Int, But g H1 H ∧ GenAt H g (m + step * i) ∧ H D = some (.lst (ys.map V.int)) ∧ ys.length = i ∧ ∀ y ∈ ys, P y)
    ⟨[], But.of (same_upd nD), hG.same (same_upd nD), upd_same, rfl, (fun _ h => nomatch h)⟩ ?_ ?_
  · rintro i H hi ⟨ys, b, hg, hD, hl, hP⟩
    refine ⟨hw _, ?_⟩
    unfold tYes
    dsimp only
    rw [if_pos (show true = true from rfl)]
    refine hs i H hi b hg _ fun y H2 py b2 hg2 => ?_
    refine ⟨_, b2 _ _ nDg hD, by rw [List.length_map]; omega, ys ++ [y], ?_, ?_, ?_, ?_, ?_⟩
    · intro c o nc hc
      rw [upd_ne (ne_of_none hc nD)]
      exact b2 _ _ nc (b _ _ nc hc)
    · obtain ⟨x1, x2, x3, e1, e2⟩ := hg2
      exact ⟨x1, x2, x3, by rw [upd_ne nDg.symm]; exact e1, e2⟩
    · rw [upd_same, List.map_append]
      rfl
    · rw [List.length_append, hl]
      rfl
    · intro z hz
      rcases List.mem_append.mp hz with hz | hz
      · exact hP z hz
      · rw [List.mem_singleton.mp hz]
        exact py
  · rintro H ⟨ys, b, hg, hD, hl, hP⟩
    exact hd H ys b hg hD hl hP
end
end My

namespace My
open PySem PySem.Spec PyProof.Rows L2 Pre
/-- a comprehension over a list of whole numbers that draws whole numbers -/
theorem lc_drawL {K : PySem.W.Frag} {a : Addr} {xs : List Int} {j : Nat} {te : TE} {vs : List Nat} {σ : L2.St} {H1 : Hp} {D : Addr} {Qd : Hp → Prop} (g : Addr) (m step : Nat) (P : Int → Prop) (nD : H1 D = none) (hG : GenAt H1 g m) (hA : H1 a = some (.lst (xs.map V.int))) (ag : a ≠ g) (hz : xs.length < sizeLine)
    (hw : ∀ x, wipe ((wipe σ vs).set j (some x)) vs = wipe σ vs)
    (hs : ∀ (i : Nat) (x : Int) (H' : Hp), xs[i]? = some x → But g H1 H' → GenAt H' g (m + step * i) → ∀ Qt : V → Hp → Prop, (∀ (y : Int) H'', P y → But g H' H'' → GenAt H'' g (m + step * (i + 1)) → Qt (.int y) H'') → te ((wipe σ vs).set j (some (.int x))) H' Qt)
    (hd : ∀ H' (ys : List Int), But g H1 H' → GenAt H' g (m + step * xs.length) → H' D = some (.lst (ys.map V.int)) → ys.length = xs.length → (∀ y ∈ ys, P y) → Qd H') :
    ∃ W : Nat → Nat → Hp → Prop, (∃ m, W 0 m (upd H1 D (.lst []))) ∧ ∀ i m H, W i m H →
      ((Itl K a).stop i H ∧ Qd H) ∨ ((Itl K a).go i H ∧ ∃ Nx : Hp → Prop, (∀ H', Nx H' → ∃ m', m' < m ∧ W (i + 1) m' H') ∧ ∀ x H', (Itl K a).yld i H x H' → gName j x (wipe σ vs) H' fun σ2 H2 => wipe σ2 vs = wipe σ vs ∧ tYes σ2 H2 fun b H3 =>
        if b = true then te σ2 H3 fun y H4 => ∃ acc, H4 D = some (.lst acc) ∧ acc.length < sizeLine ∧ Nx (upd H4 D (.lst (acc ++ [y]))) else Nx H3) := by
  have nDg : D ≠ g := hG.ne nD
  have aD : a ≠ D := ne_of_none hA nD
  refine lc_list (K := K) (a := a) (xs := xs.map V.int) (fun i H => ∃ ys : List Int, But g H1 H ∧ GenAt H g (m + step * i) ∧ H D = some (.lst (ys.map V.int)) ∧ ys.length = i ∧ ∀ y ∈ ys, P y)
    ⟨[], But.of (same_upd nD), hG.same (same_upd nD), upd_same, rfl, (fun _ h => nomatch h)⟩ (fun i H _ ⟨_, b, _⟩ => .inl (.inl (b _ _ ag hA))) ?_ ?_
  · rintro i v H hi ⟨ys, b, hg, hD, hl, hP⟩
    obtain ⟨x, hx, rfl⟩ := int_at hi
    have hil := (List.getElem?_eq_some_iff.mp hx).1
    refine ⟨hw _, ?_⟩
    unfold tYes
    dsimp only
    rw [if_pos (show true = true from rfl)]
    refine hs i x H hx b hg _ fun y H2 py b2 hg2 => ?_
    refine ⟨_, b2 _ _ nDg hD, by rw [List.length_map]; omega, ys ++ [y], ?_, ?_, ?_, ?_, ?_⟩
    · intro c o nc hc
      rw [upd_ne (ne_of_none hc nD)]
      exact b2 _ _ nc (b _ _ nc hc)
    · obtain ⟨x1, x2, x3, e1, e2⟩ := hg2
      exact ⟨x1, x2, x3, by rw [upd_ne nDg.symm]; exact e1, e2⟩
    · rw [upd_same, List.map_append]
      rfl
    · rw [List.length_append, hl]
      rfl
    · intro z hz
      rcases List.mem_append.mp hz with hz | hz
      · exact hP z hz
      · rw [List.mem_singleton.mp hz]
        exact py
  · rintro H ⟨ys, b, hg, hD, hl, hP⟩
    rw [List.length_map] at hg hl
    exact hd H ys b hg hD hl hP
end My

namespace My
open PySem PySem.Spec PyProof.Rows L2 Pre
/-- a comprehension over a list that makes new things: R tells what is known of the i-th -/
theorem lc_relL {K : PySem.W.Frag} {a : Addr} {xs : List V} {j : Nat} {te : TE} {vs : List Nat} {σ : L2.St} {H1 : Hp} {D : Addr} {Qd : Hp → Prop} (R : Nat → V → Hp → Prop) (nD : H1 D = none) (hS : SqL K H1 a xs) (hz : xs.length < sizeLine)
    (mono : ∀ (i : Nat) (y : V) (H H' : Hp), Pre.Off D H H' → R i y H → R i y H') (hw : ∀ x, wipe ((wipe σ vs).set j (some x)) vs = wipe σ vs)
    (hs : ∀ (i : Nat) (x : V) (H' : Hp) (zs : List V), xs[i]? = some x → Same H1 H' → H' D = some (.lst zs) → ∀ Qt : V → Hp → Prop, (∀ y H'', Same H' H'' → R i y H'' → Qt y H'') → te ((wipe σ vs).set j (some x)) H' Qt)
    (hd : ∀ H' ys, Same H1 H' → H' D = some (.lst ys) → ys.length = xs.length → (∀ (i : Nat) (y : V), ys[i]? = some y → R i y H') → Qd H') :
    ∃ W : Nat → Nat → Hp → Prop, (∃ m, W 0 m (upd H1 D (.lst []))) ∧ ∀ i m H, W i m H →
      ((Itl K a).stop i H ∧ Qd H) ∨ ((Itl K a).go i H ∧ ∃ Nx : Hp → Prop, (∀ H', Nx H' → ∃ m', m' < m ∧ W (i + 1) m' H') ∧ ∀ x H', (Itl K a).yld i H x H' → gName j x (wipe σ vs) H' fun σ2 H2 => wipe σ2 vs = wipe σ vs ∧ tYes σ2 H2 fun b H3 =>
        if b = true then te σ2 H3 fun y H4 => ∃ acc, H4 D = some (.lst acc) ∧ acc.length < sizeLine ∧ Nx (upd H4 D (.lst (acc ++ [y]))) else Nx H3) := by
  refine lc_list (K := K) (a := a) (xs := xs) (RelPv R H1 D) ⟨[], same_upd nD, upd_same, rfl, fun k y h => by simp at h⟩ (fun i H _ ⟨_, s, _⟩ => s.seq hS) ?_ ?_
  · rintro i x H hx ⟨ys, s, hD, hl, hR⟩
    have hi : i < xs.length := (List.getElem?_eq_some_iff.mp hx).1
    refine ⟨hw _, ?_⟩
    unfold tYes
    dsimp only
    rw [if_pos (show true = true from rfl)]
    refine hs i x H ys hx s hD _ fun y H4 s4 r4 => ?_
    refine ⟨ys, s4 _ _ hD, by omega, ys ++ [y], same_over nD (s.trans s4), upd_same, by rw [List.length_append, hl]; rfl, fun k z hz => ?_⟩
    have off : Pre.Off D H4 (upd H4 D (.lst (ys ++ [y]))) := fun b o nb h => by rw [upd_ne nb]; exact h
    by_cases hk : k < ys.length
    · rw [List.getElem?_append_left hk] at hz
      exact mono k z H _ (fun b o nb h => off b o nb (s4 b o h)) (hR k z hz)
    · rw [List.getElem?_append_right (by omega)] at hz
      have hk2 : k - ys.length = 0 := by
        have h2 := (List.getElem?_eq_some_iff.mp hz).1
        rw [List.length_singleton] at h2
        omega
      rw [hk2] at hz
      cases hz
      have ek : k = i := by omega
      rw [ek]
      exact mono i y H4 _ off r4
  · rintro H ⟨ys, s, hD, hl, hR⟩
    exact hd H ys s hD hl hR
/-- a list of lists of whole numbers -/
def RowsIn (H : Hp) (p : Addr) (rows : List (List Int)) : Prop := ∃ as : List Addr, H p = some (.lst (as.map V.ref)) ∧ as.length = rows.length ∧ ∀ (i : Nat) (a : Addr) (r : List Int), as[i]? = some a → rows[i]? = some r → H a = some (.lst (r.map V.int))
theorem RowsIn.same {H H' : Hp} {p : Addr} {rows : List (List Int)} (h : RowsIn H p rows) (s : Same H H') : RowsIn H' p rows := by
  obtain ⟨as, h1, h2, h3⟩ := h
  exact ⟨as, s _ _ h1, h2, fun i a r ha hr => s _ _ (h3 i a r ha hr)⟩
section
variable {X : Cx}
theorem huD {k : Nat} {A : Around} (r : Room k A) : A.units + 65 < cLine := by have := r.un; omega
theorem k_inD (K : PySem.W.Frag) (h : X.K = K) (hu : X.A.units + 65 < cLine) : OpR X (compareOp .In) (rInD K) := by subst h; exact op_inD hu
theorem k_notInD (K : PySem.W.Frag) (h : X.K = K) (hu : X.A.units + 65 < cLine) : OpR X (compareOp .NotIn) (rNotInD K) := by subst h; exact op_notInD hu
theorem k_indexD (K : PySem.W.Frag) (h : X.K = K) (hu : X.A.units + 65 < cLine) : MtR X "list.index" (rIndexD K) := by subst h; exact mt_indexD hu
end
/-- rows as data -/
def rowD (r : List Int) : PyData := .list (r.map PyData.int)
theorem rows_dp {K : PySem.W.Frag} {H : Hp} : ∀ {as : List Addr} {rows : List (List Int)}, as.length = rows.length → (∀ (i : Nat) (a : Addr) (r : List Int), as[i]? = some a → rows[i]? = some r → H a = some (.lst (r.map V.int))) → DpAll K H (as.map V.ref) (rows.map rowD)
  | [], [], _, _ => .nil
  | [], _ :: _, h, _ => by simp at h
  | _ :: _, [], h, _ => by simp at h
  | a :: as, r :: rows, h, k => .cons (.lst (.inl (.inl (k 0 a r rfl rfl))) (Pre.dp_ints r)) (rows_dp (by simpa using h) fun i t q ht hq => k (i + 1) t q (by simpa using ht) (by simpa using hq))
theorem rowD_eqv (r q : List Int) : PyData.eqv (rowD r) (rowD q) = decide (r = q) := by
  unfold rowD
  rw [PyData.eqv, eqv_ints]
theorem rows_shaped (rows : List (List Int)) : SeqAt.shaped (.list (rows.map rowD)) = true := by
  have h1 : ∀ l : List (List Int), PyData.canLayAll0 (l.map rowD) = true := fun l => by
    induction l with
    | nil => rfl
    | cons r l ih =>
      show (PyData.canLay0 (rowD r) && PyData.canLayAll0 (l.map rowD)) = true
      rw [ih]
      unfold rowD
      rw [PyData.canLay0, lay_ints]
      rfl
  have h2 : ∀ l : List (List Int), PyData.depthAll (l.map rowD) ≤ 1 := fun l => by
    induction l with
    | nil => simp [PyData.depthAll]
    | cons r l ih =>
      show PyData.depthAll (rowD r :: l.map rowD) ≤ 1
      rw [PyData.depthAll]
      unfold rowD at *
      rw [PyData.depth, depth_ints]
      omega
  show (PyData.canLay0 (.list (rows.map rowD)) && decide (PyData.depth (.list (rows.map rowD)) ≤ 64)) = true
  rw [Bool.and_eq_true]
  have := h2 rows
  exact ⟨by rw [PyData.canLay0]; exact h1 rows, decide_eq_true (by rw [PyData.depth]; omega)⟩
end My

namespace My
open PySem PySem.Spec PyProof.Rows L2 Pre
/-! ### min and max of a list of pairs of whole numbers -/
def pairD (p : Int × Int) : PyData := .tuple [.int p.1, .int p.2]
def ltP2 (p q : Int × Int) : Prop := p.1 < q.1 ∨ (p.1 = q.1 ∧ p.2 < q.2)
instance (p q : Int × Int) : Decidable (ltP2 p q) := by unfold ltP2; infer_instance
theorem pair_lt (p q : Int × Int) : PySem.W.dataLt (pairD p) (pairD q) = decide (ltP2 p q) := PySem.W.dataLt_ii p.1 p.2 q.1 q.2
theorem ltP2_trans {p q r : Int × Int} (h : ¬ ltP2 q p) (k : ¬ ltP2 r q) : ¬ ltP2 r p := by
  unfold ltP2 at *
  omega
def minP (p : Int × Int) (ps : List (Int × Int)) : Int × Int := ps.foldl (fun a y => if ltP2 y a then y else a) p
def maxP (p : Int × Int) (ps : List (Int × Int)) : Int × Int := ps.foldl (fun a y => if ltP2 a y then y else a) p
theorem minP_data : ∀ (ps : List (Int × Int)) (p : Int × Int), PySem.W.minD (pairD p) (ps.map pairD) = pairD (minP p ps)
  | [], _ => rfl
  | q :: ps, p => by
    show PySem.W.minD (if PySem.W.dataLt (pairD q) (pairD p) = true then pairD q else pairD p) (ps.map pairD) = pairD (minP (if ltP2 q p then q else p) ps)
    rw [pair_lt]
    by_cases h : ltP2 q p
    · rw [decide_eq_true h, if_pos rfl, if_pos h, minP_data ps q]
    · rw [decide_eq_false h, if_neg (by decide), if_neg h, minP_data ps p]
theorem maxP_data : ∀ (ps : List (Int × Int)) (p : Int × Int), PySem.W.maxD (pairD p) (ps.map pairD) = pairD (maxP p ps)
  | [], _ => rfl
  | q :: ps, p => by
    show PySem.W.maxD (if PySem.W.dataLt (pairD p) (pairD q) = true then pairD q else pairD p) (ps.map pairD) = pairD (maxP (if ltP2 p q then q else p) ps)
    rw [pair_lt]
    by_cases h : ltP2 p q
    · rw [decide_eq_true h, if_pos rfl, if_pos h, maxP_data ps q]
    · rw [decide_eq_false h, if_neg (by decide), if_neg h, maxP_data ps p]
theorem minP_spec : ∀ (ps : List (Int × Int)) (p : Int × Int), minP p ps ∈ p :: ps ∧ ∀ q ∈ p :: ps, ¬ ltP2 q (minP p ps)
  | [], p => ⟨List.mem_cons_self, fun q hq => by
      rw [List.mem_singleton.mp hq]
      show ¬ ltP2 p p
      unfold ltP2
      omega⟩
  | r :: ps, p => by
    show minP (if ltP2 r p then r else p) ps ∈ _ ∧ ∀ q ∈ p :: r :: ps, ¬ ltP2 q (minP (if ltP2 r p then r else p) ps)
    by_cases h : ltP2 r p
    · rw [if_pos h]
      obtain ⟨h1, h2⟩ := minP_spec ps r
      refine ⟨List.mem_cons_of_mem _ h1, fun q hq => ?_⟩
      rcases List.mem_cons.mp hq with rfl | hq
      · have := h2 r List.mem_cons_self
        exact fun z => this (by unfold ltP2 at *; omega)
      · exact h2 q hq
    · rw [if_neg h]
      obtain ⟨h1, h2⟩ := minP_spec ps p
      refine ⟨?_, fun q hq => ?_⟩
      · rcases List.mem_cons.mp h1 with e | e
        · rw [e]; exact List.mem_cons_self
        · exact List.mem_cons_of_mem _ (List.mem_cons_of_mem _ e)
      · rcases List.mem_cons.mp hq with rfl | hq
        · exact h2 q List.mem_cons_self
        · rcases List.mem_cons.mp hq with rfl | hq
          · have := h2 p List.mem_cons_self
            exact fun z => this (by unfold ltP2 at *; omega)
          · exact h2 q (List.mem_cons_of_mem _ hq)
theorem maxP_spec : ∀ (ps : List (Int × Int)) (p : Int × Int), maxP p ps ∈ p :: ps ∧ ∀ q ∈ p :: ps, ¬ ltP2 (maxP p ps) q
  | [], p => ⟨List.mem_cons_self, fun q hq => by
      rw [List.mem_singleton.mp hq]
      show ¬ ltP2 p p
      unfold ltP2
      omega⟩
  | r :: ps, p => by
    show maxP (if ltP2 p r then r else p) ps ∈ _ ∧ ∀ q ∈ p :: r :: ps, ¬ ltP2 (maxP (if ltP2 p r then r else p) ps) q
    by_cases h : ltP2 p r
    · rw [if_pos h]
      obtain ⟨h1, h2⟩ := maxP_spec ps r
      refine ⟨List.mem_cons_of_mem _ h1, fun q hq => ?_⟩
      rcases List.mem_cons.mp hq with rfl | hq
      · have := h2 r List.mem_cons_self
        exact fun z => this (by unfold ltP2 at *; omega)
      · exact h2 q hq
    · rw [if_neg h]
      obtain ⟨h1, h2⟩ := maxP_spec ps p
      refine ⟨?_, fun q hq => ?_⟩
      · rcases List.mem_cons.mp h1 with e | e
        · rw [e]; exact List.mem_cons_self
        · exact List.mem_cons_of_mem _ (List.mem_cons_of_mem _ e)
      · rcases List.mem_cons.mp hq with rfl | hq
        · exact h2 q List.mem_cons_self
        · rcases List.mem_cons.mp hq with rfl | hq
          · have := h2 p List.mem_cons_self
            exact fun z => this (by unfold ltP2 at *; omega)
          · exact h2 q (List.mem_cons_of_mem _ hq)
theorem pairs_alike (ps : List (Int × Int)) : PySem.W.AlikeAll (ps.map pairD) := by
  refine ⟨fun x hx y hy => ?_, fun x hx => ?_⟩
  · obtain ⟨p, _, rfl⟩ := List.mem_map.mp hx
    obtain ⟨q, _, rfl⟩ := List.mem_map.mp hy
    rfl
  · obtain ⟨p, _, rfl⟩ := List.mem_map.mp hx
    exact fun z => nomatch z
theorem pairs_lay : ∀ ps : List (Int × Int), PyData.canLayAll0 (ps.map pairD) = true
  | [] => rfl
  | p :: ps => by simp [PyData.canLayAll0, PyData.canLay0, pairD, pairs_lay ps]
theorem pairs_depth : ∀ ps : List (Int × Int), PyData.depthAll (ps.map pairD) ≤ 2
  | [] => by simp [PyData.depthAll]
  | p :: ps => by
    have := pairs_depth ps
    simp only [List.map_cons, PyData.depthAll, pairD, PyData.depth]
    omega
/-- a list of pairs, at a -/
def PairsAt (K : PySem.W.Frag) (H : Hp) (a : Addr) (ps : List (Int × Int)) : Prop := ∃ as : List Addr, SqL K H a (as.map V.ref) ∧ as.length = ps.length ∧ ∀ (i : Nat) (t : Addr) (p : Int × Int), as[i]? = some t → ps[i]? = some p → SqT K H t [.int p.1, .int p.2]
theorem pairs_dp {K : PySem.W.Frag} {H : Hp} : ∀ {as : List Addr} {ps : List (Int × Int)}, as.length = ps.length → (∀ (i : Nat) (t : Addr) (p : Int × Int), as[i]? = some t → ps[i]? = some p → SqT K H t [.int p.1, .int p.2]) → DpAll K H (as.map V.ref) (ps.map pairD)
  | [], [], _, _ => .nil
  | [], _ :: _, h, _ => by simp at h
  | _ :: _, [], h, _ => by simp at h
  | a :: as, p :: ps, h, k => .cons (.tup (k 0 a p rfl rfl) (.cons (.int _) (.cons (.int _) .nil))) (pairs_dp (by simpa using h) fun i t q ht hq => k (i + 1) t q (by simpa using ht) (by simpa using hq))
def rMnP (K : PySem.W.Frag) (best : Int × Int → List (Int × Int) → Int × Int) : List V → Hp → VK → Prop := fun xs H Q => ∃ (a : Addr) (p : Int × Int) (ps : List (Int × Int)), xs = [.ref a] ∧ PairsAt K H a (p :: ps) ∧ ∀ t, SqT K H t [.int (best p ps).1, .int (best p ps).2] → Q (.ref t) H
section
variable {X : Cx} {K : PySem.W.Frag}
theorem pick {H : Hp} {s : Shared} {as : List Addr} {ps : List (Int × Int)} {its : List Value} {i : Nat} {v : Value} {h' : Heap} {bs cs : List Addr} {b : Int × Int} (hl : as.length = ps.length)
    (hT : ∀ (i : Nat) (t : Addr) (p : Int × Int), as[i]? = some t → ps[i]? = some p → SqT K H t [.int p.1, .int p.2]) (rv : Vals (as.map V.ref) its) (hr : ReadsAll s.heap its (ps.map pairD) cs) (hv : its.toArray[i]? = some v) (rd : Reads h' v (pairD b) bs)
    (hk : ∀ b o, s.heap.get? b = some o → h'.get? b = some o) : ∃ t, v = .ref t ∧ SqT K H t [.int b.1, .int b.2] := by
  have hv' : its[i]? = some v := by simpa using hv
  have hil : i < its.length := (List.getElem?_eq_some_iff.mp hv').1
  have hvl := rv.length
  rw [List.length_map] at hvl
  obtain ⟨u, hu, ru⟩ := rv.get (show (as.map V.ref)[i]? = some (.ref (as[i]'(by omega))) by rw [List.getElem?_map, List.getElem?_eq_getElem (by omega)]; rfl)
  rw [hv'] at hu
  cases hu
  have hp : ps[i]? = some (ps[i]'(by omega)) := List.getElem?_eq_getElem (by omega)
  obtain ⟨ds, r1, _, _, _⟩ := PySem.W.readsAll_at hr i v hv'
  have e1 : (ps.map pairD).getD i .none = pairD (ps[i]'(by omega)) := by
    rw [List.getD_eq_getElem?_getD, List.getElem?_map, hp]
    rfl
  rw [e1] at r1
  have e2 := PySem.SeqAt.Reads.unique (pairD b) _ v _ _ (by simp [pairD, PyData.canLay0, PyData.canLayAll0]) rd (Reads.keeps hk r1)
  have e3 : b = ps[i]'(by omega) := by
    unfold pairD at e2
    injection e2 with e2
    injection e2 with e4 e5
    injection e5 with e5 _
    injection e4 with e4
    injection e5 with e5
    exact Prod.ext e4 e5
  refine ⟨as[i]'(by omega), ru, ?_⟩
  rw [e3]
  exact hT i _ _ (List.getElem?_eq_getElem (by omega)) hp
theorem k_minP (K : PySem.W.Frag) (h : X.K = K) (hc : X.calm = true) (hu : X.A.units + 65 < cLine) : CallR X (.builtin "min") (rMnP K minP) := by
  subst h
  intro pins s σ H xs us Q I r h
  obtain ⟨a, p, ps, rfl, ⟨as, hS, hl, hT⟩, q⟩ := h
  obtain ⟨its, rv, hL, _⟩ := I.list hS
  rw [Vals.ref1 r]
  obtain ⟨cs, hr⟩ := Dp.readsAll I _ _ its (pairs_dp hl hT) rv
  have hd := pairs_depth (p :: ps)
  refine PySem.W.min_list_data (I.ok.hd hc) hL.isList (show ReadsAll s.heap its.toArray.toList (pairD p :: ps.map pairD) cs by simpa using hr) (pairs_alike (p :: ps)) (by rw [List.map_cons] at hd; omega) fun i v h' tk bs hv rd hk => ?_
  rw [minP_data] at rd
  obtain ⟨t, rfl, ht⟩ := pick hl hT rv hr hv rd hk
  exact ⟨.ref t, H, I.kept hk, rfl, q t ht⟩
theorem k_maxP (K : PySem.W.Frag) (h : X.K = K) (hc : X.calm = true) (hu : X.A.units + 65 < cLine) : CallR X (.builtin "max") (rMnP K maxP) := by
  subst h
  intro pins s σ H xs us Q I r h
  obtain ⟨a, p, ps, rfl, ⟨as, hS, hl, hT⟩, q⟩ := h
  obtain ⟨its, rv, hL, _⟩ := I.list hS
  rw [Vals.ref1 r]
  obtain ⟨cs, hr⟩ := Dp.readsAll I _ _ its (pairs_dp hl hT) rv
  have hd := pairs_depth (p :: ps)
  refine PySem.W.max_list_data (I.ok.hd hc) hL.isList (show ReadsAll s.heap its.toArray.toList (pairD p :: ps.map pairD) cs by simpa using hr) (pairs_alike (p :: ps)) (by rw [List.map_cons] at hd; omega) fun i v h' tk bs hv rd hk => ?_
  rw [maxP_data] at rd
  obtain ⟨t, rfl, ht⟩ := pick hl hT rv hr hv rd hk
  exact ⟨.ref t, H, I.kept hk, rfl, q t ht⟩
theorem huM {k : Nat} {A : Around} (r : Room k A) : A.units + 65 < cLine := by have := r.un; omega
end
end My

namespace My
open PySem PySem.Spec PyProof.Rows L2 Pre
/-! ### data in a heap: what is told of a value by lists and tuples that stand there (none of them frozen) -/
mutual
inductive Dt (H : Hp) : V → PyData → Prop
  | non : Dt H .non .none
  | bl (b : Bool) : Dt H (.bl b) (.bool b)
  | int (n : Int) : Dt H (.int n) (.int n)
  | str (x : Str) : Dt H (.str x) (.str x)
  | lst {a : Addr} {xs : List V} {ds : List PyData} : H a = some (.lst xs) → DtA H xs ds → Dt H (.ref a) (.list ds)
  | tup {a : Addr} {xs : List V} {ds : List PyData} : H a = some (.tup xs) → DtA H xs ds → Dt H (.ref a) (.tuple ds)
inductive DtA (H : Hp) : List V → List PyData → Prop
  | nil : DtA H [] []
  | cons {v : V} {vs : List V} {d : PyData} {ds : List PyData} : Dt H v d → DtA H vs ds → DtA H (v :: vs) (d :: ds)
end
mutual
theorem Dt.same {H H' : Hp} (s : Same H H') : ∀ {d : PyData} {v : V}, Dt H v d → Dt H' v d
  | .none, _, h => by cases h; exact .non
  | .bool _, _, h => by cases h; exact .bl _
  | .int _, _, h => by cases h; exact .int _
  | .str _, _, h => by cases h; exact .str _
  | .list _, _, h => by cases h with | lst a b => exact .lst (s _ _ a) (DtA.same s b)
  | .tuple _, _, h => by cases h with | tup a b => exact .tup (s _ _ a) (DtA.same s b)
  | .dict _, _, h => nomatch h
theorem DtA.same {H H' : Hp} (s : Same H H') : ∀ {ds : List PyData} {vs : List V}, DtA H vs ds → DtA H' vs ds
  | [], _, h => by cases h; exact .nil
  | _ :: _, _, h => by cases h with | cons a b => exact .cons (Dt.same s a) (DtA.same s b)
end
mutual
theorem Dt.dp {K : PySem.W.Frag} {H : Hp} : ∀ {d : PyData} {v : V}, Dt H v d → Dp K H v d
  | .none, _, h => by cases h; exact .non
  | .bool _, _, h => by cases h; exact .bl _
  | .int _, _, h => by cases h; exact .int _
  | .str _, _, h => by cases h; exact .str _
  | .list _, _, h => by cases h with | lst a b => exact .lst (.inl (.inl a)) (DtA.dp b)
  | .tuple _, _, h => by cases h with | tup a b => exact .tup (.inl (.inl a)) (DtA.dp b)
  | .dict _, _, h => nomatch h
theorem DtA.dp {K : PySem.W.Frag} {H : Hp} : ∀ {ds : List PyData} {vs : List V}, DtA H vs ds → DpAll K H vs ds
  | [], _, h => by cases h; exact .nil
  | _ :: _, _, h => by cases h with | cons a b => exact .cons (Dt.dp a) (DtA.dp b)
end
theorem DtA.len {H : Hp} : ∀ {ds : List PyData} {vs : List V}, DtA H vs ds → vs.length = ds.length
  | [], _, h => by cases h; rfl
  | _ :: _, _, h => by cases h with | cons a b => rw [List.length_cons, List.length_cons, DtA.len b]
theorem DtA.app {H : Hp} : ∀ {ds : List PyData} {vs : List V} {es : List PyData} {us : List V}, DtA H vs ds → DtA H us es → DtA H (vs ++ us) (ds ++ es)
  | [], _, _, _, h, k => by cases h; exact k
  | _ :: _, _, _, _, h, k => by cases h with | cons a b => exact .cons a (DtA.app b k)
theorem DtA.get {H : Hp} : ∀ {ds : List PyData} {vs : List V} {i : Nat} {d : PyData}, DtA H vs ds → ds[i]? = some d → ∃ v, vs[i]? = some v ∧ Dt H v d
  | [], _, _, _, _, k => by simp at k
  | _ :: _, _, 0, _, h, k => by
    cases h with
    | cons a b => rw [List.getElem?_cons_zero] at k; cases k; exact ⟨_, rfl, a⟩
  | _ :: _, _, i + 1, _, h, k => by
    cases h with
    | cons a b => rw [List.getElem?_cons_succ] at k; rw [List.getElem?_cons_succ]; exact DtA.get b k
theorem DtA.got {H : Hp} {ds : List PyData} {vs : List V} {i : Nat} {v : V} (h : DtA H vs ds) (k : vs[i]? = some v) : ∃ d, ds[i]? = some d ∧ Dt H v d := by
  have hi := (List.getElem?_eq_some_iff.mp k).1
  have hl := h.len
  obtain ⟨u, hu, d⟩ := h.get (List.getElem?_eq_getElem (show i < ds.length by omega))
  rw [k] at hu
  cases hu
  exact ⟨_, List.getElem?_eq_getElem (by omega), d⟩
theorem DtA.take {H : Hp} : ∀ {ds : List PyData} {vs : List V} (n : Nat), DtA H vs ds → DtA H (vs.take n) (ds.take n)
  | _, _, 0, _ => .nil
  | [], _, _ + 1, h => by cases h; exact .nil
  | _ :: _, _, n + 1, h => by cases h with | cons a b => exact .cons a (DtA.take n b)
theorem DtA.drop {H : Hp} : ∀ {ds : List PyData} {vs : List V} (n : Nat), DtA H vs ds → DtA H (vs.drop n) (ds.drop n)
  | _, _, 0, h => h
  | [], _, _ + 1, h => by cases h; exact .nil
  | _ :: _, _, n + 1, h => by cases h with | cons a b => exact DtA.drop n b
theorem DtA.rev {H : Hp} : ∀ {ds : List PyData} {vs : List V}, DtA H vs ds → DtA H vs.reverse ds.reverse
  | [], _, h => by cases h; exact .nil
  | _ :: _, _, h => by
    cases h with
    | cons a b => rw [List.reverse_cons, List.reverse_cons]; exact DtA.app (DtA.rev b) (.cons a .nil)
theorem DtA.ints {H : Hp} : ∀ ns : List Int, DtA H (ns.map V.int) (ns.map PyData.int)
  | [] => .nil
  | n :: r => .cons (.int n) (DtA.ints r)
theorem DtA.intsE {H : Hp} : ∀ {ns : List Int} {vs : List V}, DtA H vs (ns.map PyData.int) → vs = ns.map V.int
  | [], _, h => by cases h; rfl
  | n :: r, _, h => by
    cases h with
    | cons a b => cases a; rw [DtA.intsE b]; rfl
/-- a list of whole numbers -/
theorem Dt.ints {H : Hp} {a : Addr} {ns : List Int} (h : H a = some (.lst (ns.map V.int))) : Dt H (.ref a) (rowD ns) := .lst h (DtA.ints ns)
theorem Dt.intsE {H : Hp} {v : V} {ns : List Int} (h : Dt H v (rowD ns)) : ∃ a, v = .ref a ∧ H a = some (.lst (ns.map V.int)) := by
  unfold rowD at h
  cases h with
  | lst a b => rw [DtA.intsE b] at a; exact ⟨_, rfl, a⟩
theorem Dt.listE {H : Hp} {v : V} {ds : List PyData} (h : Dt H v (.list ds)) : ∃ a xs, v = .ref a ∧ H a = some (.lst xs) ∧ DtA H xs ds := by
  cases h with
  | lst a b => exact ⟨_, _, rfl, a, b⟩
theorem Dt.tupE {H : Hp} {v : V} {ds : List PyData} (h : Dt H v (.tuple ds)) : ∃ a xs, v = .ref a ∧ H a = some (.tup xs) ∧ DtA H xs ds := by
  cases h with
  | tup a b => exact ⟨_, _, rfl, a, b⟩
/-! ### what is owned (and changes) is left out -/
def rs (S : List Addr) (H : Hp) : Hp := fun a => if a ∈ S then none else H a
theorem rs_nil (H : Hp) : rs [] H = H := by funext a; simp [rs]
theorem rs_in {S : List Addr} {H : Hp} {a : Addr} (h : a ∈ S) : rs S H a = none := if_pos h
theorem rs_out {S : List Addr} {H : Hp} {a : Addr} (h : a ∉ S) : rs S H a = H a := if_neg h
theorem rs_some {S : List Addr} {H : Hp} {a : Addr} {o : HO} (h : rs S H a = some o) : a ∉ S ∧ H a = some o := by
  by_cases m : a ∈ S
  · rw [rs_in m] at h; cases h
  · rw [rs_out m] at h; exact ⟨m, h⟩
theorem rs_le {S : List Addr} {H : Hp} : Same (rs S H) H := fun _ _ h => (rs_some h).2
theorem rs_same {S : List Addr} {H H' : Hp} (s : Same H H') : Same (rs S H) (rs S H') := fun b o h => by
  obtain ⟨m, e⟩ := rs_some h
  rw [rs_out m]
  exact s b o e
theorem rs_upd {S : List Addr} {H : Hp} {p : Addr} {o : HO} (h : p ∈ S) : rs S (L2.upd H p o) = rs S H := by
  funext a
  by_cases m : a ∈ S
  · rw [rs_in m, rs_in m]
  · rw [rs_out m, rs_out m, upd_ne (fun e => m (by rw [e]; exact h))]
/-- all of them stand -/
def Has (S : List Addr) (H : Hp) : Prop := ∀ a ∈ S, ∃ o, H a = some o
theorem Has.nil {H : Hp} : Has [] H := fun _ h => nomatch h
theorem Has.same {S : List Addr} {H H' : Hp} (h : Has S H) (s : Same H H') : Has S H' := fun a m => by
  obtain ⟨o, e⟩ := h a m
  exact ⟨o, s a o e⟩
theorem Has.cons {S : List Addr} {H : Hp} {p : Addr} {o : HO} (h : Has S H) (e : H p = some o) : Has (p :: S) H := fun a m => by
  rcases List.mem_cons.mp m with rfl | m
  · exact ⟨o, e⟩
  · exact h a m
theorem Has.upd {S : List Addr} {H : Hp} {p : Addr} {o : HO} (h : Has S H) : Has S (L2.upd H p o) := fun a m => by
  by_cases e : a = p
  · subst e; exact ⟨o, upd_same⟩
  · rw [upd_ne e]; exact h a m
theorem Has.out {S : List Addr} {H : Hp} {p : Addr} (h : Has S H) (n : H p = none) : p ∉ S := fun m => by
  obtain ⟨o, e⟩ := h p m
  rw [n] at e
  cases e
theorem GenAt.has {H : Hp} {g : Addr} {n : Nat} (h : GenAt H g n) : Has [g] H := by
  obtain ⟨x, y, z, e, _⟩ := h
  exact Has.nil.cons e
/-- all but what is owned stays -/
def Sta (S : List Addr) (H H' : Hp) : Prop := Same (rs S H) (rs S H')
theorem Sta.of {S : List Addr} {H H' : Hp} (s : Same H H') : Sta S H H' := rs_same s
theorem Sta.trans {S : List Addr} {H H1 H2 : Hp} (a : Sta S H H1) (b : Sta S H1 H2) : Sta S H H2 := fun c o h => b c o (a c o h)
theorem Sta.at_ {S : List Addr} {H H' : Hp} (s : Sta S H H') {a : Addr} {o : HO} (m : a ∉ S) (h : H a = some o) : H' a = some o := (rs_some (s a o (by rw [rs_out m]; exact h))).2
theorem Sta.upd {S : List Addr} {H : Hp} {p : Addr} {o : HO} (h : p ∈ S) : Sta S H (L2.upd H p o) := fun c u e => by rw [rs_upd h]; exact e
theorem Sta.more {S : List Addr} {H H' : Hp} {p : Addr} (s : Sta S H H') : Sta (p :: S) H H' := fun c o h => by
  obtain ⟨m, e⟩ := rs_some h
  have m2 : c ∉ S := fun z => m (List.mem_cons_of_mem _ z)
  rw [rs_out m]
  exact s.at_ m2 e
theorem But.sta {g : Addr} {H H' : Hp} (b : But g H H') : Sta [g] H H' := fun c o h => by
  obtain ⟨m, e⟩ := rs_some h
  rw [rs_out m]
  exact b c o (fun z => m (by rw [z]; exact List.mem_cons_self)) e
/-- what was there ahead of a new thing does not speak of it -/
theorem under {S : List Addr} {H H' : Hp} {p : Addr} (n : H p = none) (s : Same H H') : Same (rs S H) (rs (p :: S) H') := fun c o h => by
  obtain ⟨m, e⟩ := rs_some h
  rw [rs_out (fun z => by
    rcases List.mem_cons.mp z with rfl | z
    · rw [n] at e; cases e
    · exact m z)]
  exact s c o e
theorem over {S : List Addr} {H : Hp} {p : Addr} : Same (rs (p :: S) H) (rs S H) := fun c o h => by
  obtain ⟨m, e⟩ := rs_some h
  rw [rs_out (fun z => m (List.mem_cons_of_mem _ z))]
  exact e
/-! ### a new list, a new tuple, a sum of lists -/
theorem dt_new {S : List Addr} {H : Hp} {p : Addr} {xs : List V} {ds : List PyData} (hS : Has S H) (n : H p = none) (h : DtA (rs S H) xs ds) : Dt (rs S (upd H p (.lst xs))) (.ref p) (.list ds) :=
  .lst (by rw [rs_out (hS.out n)]; exact upd_same) (h.same (rs_same (same_upd n)))
theorem dt_newT {S : List Addr} {H : Hp} {p : Addr} {xs : List V} {ds : List PyData} (hS : Has S H) (n : H p = none) (h : DtA (rs S H) xs ds) : Dt (rs S (upd H p (.tup xs))) (.ref p) (.tuple ds) :=
  .tup (by rw [rs_out (hS.out n)]; exact upd_same) (h.same (rs_same (same_upd n)))
theorem d_lst {S : List Addr} {H : Hp} {xs : List V} {ds : List PyData} {Q : VK} (hS : Has S H) (h : DtA (rs S H) xs ds) (hz : xs.length ≤ sizeLine) (k : ∀ p H', Same H H' → H p = none → H' p = some (.lst xs) → Dt (rs S H') (.ref p) (.list ds) → Q (.ref p) H') : xs.length ≤ sizeLine ∧ ∀ p, H p = none → Q (.ref p) (upd H p (.lst xs)) :=
  ⟨hz, fun p n => k p _ (same_upd n) n upd_same (dt_new hS n h)⟩
theorem d_tup {S : List Addr} {H : Hp} {xs : List V} {ds : List PyData} {Q : VK} (hS : Has S H) (h : DtA (rs S H) xs ds) (hz : xs.length ≤ sizeLine) (k : ∀ p H', Same H H' → H p = none → H' p = some (.tup xs) → Dt (rs S H') (.ref p) (.tuple ds) → Q (.ref p) H') : xs.length ≤ sizeLine ∧ ∀ p, H p = none → Q (.ref p) (upd H p (.tup xs)) :=
  ⟨hz, fun p n => k p _ (same_upd n) n upd_same (dt_newT hS n h)⟩
theorem d_cat {S : List Addr} {H : Hp} {v w : V} {ds es : List PyData} {Q : VK} (hS : Has S H) (hv : Dt (rs S H) v (.list ds)) (hw : Dt (rs S H) w (.list es)) (hz : ds.length + es.length ≤ sizeLine) (k : ∀ p H', Same H H' → H p = none → Dt (rs S H') (.ref p) (.list (ds ++ es)) → Q (.ref p) H') : rCat v w H Q := by
  obtain ⟨a, xs, rfl, ha, hx⟩ := hv.listE
  obtain ⟨b, ys, rfl, hb, hy⟩ := hw.listE
  exact ⟨a, b, xs, ys, rfl, rfl, (rs_some ha).2, (rs_some hb).2, by rw [hx.len, hy.len]; exact hz, fun p n => k p _ (same_upd n) n (dt_new hS n (hx.app hy))⟩
theorem d_eq {K : PySem.W.Frag} {H : Hp} {v w : V} {d e : PyData} {Q : VK} (hv : Dt H v d) (hw : Dt H w e) (sd : SeqAt.shaped d = true) (se : SeqAt.shaped e = true) (q : Q (.bl (PyData.eqv d e)) H) : rEqD K v w H Q := ⟨d, e, hv.dp, hw.dp, sd, se, q⟩
theorem d_ne {K : PySem.W.Frag} {H : Hp} {v w : V} {d e : PyData} {Q : VK} (hv : Dt H v d) (hw : Dt H w e) (sd : SeqAt.shaped d = true) (se : SeqAt.shaped e = true) (q : Q (.bl (!PyData.eqv d e)) H) : rNeD K v w H Q := ⟨d, e, hv.dp, hw.dp, sd, se, q⟩
/-! ### comprehensions -/
/-- what comes of an item: nothing, or data -/
def Out (S : List Addr) (H : Hp) : Option PyData → Option V → Prop
  | some d, some v => Dt (rs S H) v d
  | none, none => True
  | _, _ => False
def accP (S : List Addr) (H1 : Hp) (D : Addr) (ds : List PyData) (H : Hp) : Prop := Same H1 H ∧ ∃ ys, H D = some (.lst ys) ∧ DtA (rs (D :: S) H) ys ds
theorem acc_step {S : List Addr} {H1 : Hp} {D : Addr} {sel : List (Option PyData)} {i : Nat} {o : Option PyData} {H H4 : Hp} (nD : H1 D = none) (ho : sel[i]? = some o) (hz : sel.length < sizeLine) (h : accP S H1 D ((sel.take i).filterMap id) H) (s4 : Same H H4) :
    ∀ y : Option V, Out (D :: S) H4 o y → match y with
      | some v => ∃ acc, H4 D = some (.lst acc) ∧ acc.length < sizeLine ∧ accP S H1 D ((sel.take (i + 1)).filterMap id) (upd H4 D (.lst (acc ++ [v])))
      | none => accP S H1 D ((sel.take (i + 1)).filterMap id) H4 := by
  obtain ⟨s, ys, hD, hy⟩ := h
  intro y hO
  rw [take_fm ho]
  cases o with
  | none =>
    cases y with
    | none => exact ⟨s.trans s4, ys, s4 _ _ hD, by simpa using hy.same (rs_same s4)⟩
    | some v => exact absurd hO (fun z => z)
  | some d =>
    cases y with
    | none => exact absurd hO (fun z => z)
    | some v =>
      refine ⟨ys, s4 _ _ hD, ?_, same_over nD (s.trans s4), ys ++ [v], upd_same, ?_⟩
      · rw [hy.len]
        exact Nat.lt_of_le_of_lt (fm_len sel i) hz
      · rw [rs_upd List.mem_cons_self]
        exact (hy.same (rs_same s4)).app (.cons hO .nil)
theorem acc_end {S : List Addr} {H1 : Hp} {D : Addr} {ds : List PyData} {H : Hp} (hS : Has S H1) (nD : H1 D = none) (h : accP S H1 D ds H) : Dt (rs S H) (.ref D) (.list ds) := by
  obtain ⟨s, ys, hD, hy⟩ := h
  exact .lst (by rw [rs_out (hS.out nD)]; exact hD) (hy.same over)
theorem lc_dR {lo : Int} {n : Nat} {j : Nat} {tt : TT} {te : TE} {vs : List Nat} {σ : L2.St} {H1 : Hp} {D : Addr} {Qd : Hp → Prop} {S : List Addr} (hS : Has S H1) (sel : List (Option PyData)) (nD : H1 D = none) (hlen : sel.length = n) (hz : n < sizeLine)
    (hw : ∀ x, wipe ((wipe σ vs).set j (some x)) vs = wipe σ vs)
    (hs : ∀ (i : Nat) (o : Option PyData) (H' : Hp), i < n → sel[i]? = some o → Same H1 H' → Has (D :: S) H' → ∀ Qt : Option V → Hp → Prop, (∀ y H'', Same H' H'' → Out (D :: S) H'' o y → Qt y H'') →
      tt ((wipe σ vs).set j (some (.int (lo + (i : Int))))) H' fun b H3 => if b = true then te ((wipe σ vs).set j (some (.int (lo + (i : Int))))) H3 fun y H4 => Qt (some y) H4 else Qt none H3)
    (hd : ∀ H', Same H1 H' → H' D ≠ none → Dt (rs S H') (.ref D) (.list (sel.filterMap id)) → Qd H') :
    ∃ W : Nat → Nat → Hp → Prop, (∃ m, W 0 m (upd H1 D (.lst []))) ∧ ∀ i m H, W i m H →
      ((Itr lo n).stop i H ∧ Qd H) ∨ ((Itr lo n).go i H ∧ ∃ Nx : Hp → Prop, (∀ H', Nx H' → ∃ m', m' < m ∧ W (i + 1) m' H') ∧ ∀ x H', (Itr lo n).yld i H x H' → gName j x (wipe σ vs) H' fun σ2 H2 => wipe σ2 vs = wipe σ vs ∧ tt σ2 H2 fun b H3 =>
        if b = true then te σ2 H3 fun y H4 => ∃ acc, H4 D = some (.lst acc) ∧ acc.length < sizeLine ∧ Nx (upd H4 D (.lst (acc ++ [y]))) else Nx H3) := by
  refine lc_range (lo := lo) (n := n) (fun i H => accP S H1 D ((sel.take i).filterMap id) H) ⟨same_upd nD, [], upd_same, .nil⟩ ?_ ?_
  · rintro i H hi h
    refine ⟨hw _, ?_⟩
    have ho : sel[i]? = some (sel[i]'(by omega)) := List.getElem?_eq_getElem (by omega)
    obtain ⟨s, ys, hD, hy⟩ := id h
    exact hs i _ H hi ho s ((hS.same s).cons hD) (fun o H4 => match o with
      | some y => ∃ acc, H4 D = some (.lst acc) ∧ acc.length < sizeLine ∧ accP S H1 D ((sel.take (i + 1)).filterMap id) (upd H4 D (.lst (acc ++ [y])))
      | none => accP S H1 D ((sel.take (i + 1)).filterMap id) H4) fun y H4 s4 hO => acc_step nD ho (by omega) h s4 y hO
  · rintro H h
    rw [← hlen, List.take_length] at h
    refine hd H h.1 ?_ (acc_end hS nD h)
    obtain ⟨_, ys, hD, _⟩ := h
    rw [hD]
    exact fun z => nomatch z
theorem lc_dL {K : PySem.W.Frag} {a : Addr} {xs : List V} {j : Nat} {tt : TT} {te : TE} {vs : List Nat} {σ : L2.St} {H1 : Hp} {D : Addr} {Qd : Hp → Prop} {S : List Addr} (hS : Has S H1) (sel : List (Option PyData)) (nD : H1 D = none) (hA : SqL K H1 a xs) (hlen : sel.length = xs.length) (hz : xs.length < sizeLine)
    (hw : ∀ x, wipe ((wipe σ vs).set j (some x)) vs = wipe σ vs)
    (hs : ∀ (i : Nat) (x : V) (o : Option PyData) (H' : Hp), xs[i]? = some x → sel[i]? = some o → Same H1 H' → Has (D :: S) H' → ∀ Qt : Option V → Hp → Prop, (∀ y H'', Same H' H'' → Out (D :: S) H'' o y → Qt y H'') →
      tt ((wipe σ vs).set j (some x)) H' fun b H3 => if b = true then te ((wipe σ vs).set j (some x)) H3 fun y H4 => Qt (some y) H4 else Qt none H3)
    (hd : ∀ H', Same H1 H' → H' D ≠ none → Dt (rs S H') (.ref D) (.list (sel.filterMap id)) → Qd H') :
    ∃ W : Nat → Nat → Hp → Prop, (∃ m, W 0 m (upd H1 D (.lst []))) ∧ ∀ i m H, W i m H →
      ((Itl K a).stop i H ∧ Qd H) ∨ ((Itl K a).go i H ∧ ∃ Nx : Hp → Prop, (∀ H', Nx H' → ∃ m', m' < m ∧ W (i + 1) m' H') ∧ ∀ x H', (Itl K a).yld i H x H' → gName j x (wipe σ vs) H' fun σ2 H2 => wipe σ2 vs = wipe σ vs ∧ tt σ2 H2 fun b H3 =>
        if b = true then te σ2 H3 fun y H4 => ∃ acc, H4 D = some (.lst acc) ∧ acc.length < sizeLine ∧ Nx (upd H4 D (.lst (acc ++ [y]))) else Nx H3) := by
  refine lc_list (K := K) (a := a) (xs := xs) (fun i H => accP S H1 D ((sel.take i).filterMap id) H) ⟨same_upd nD, [], upd_same, .nil⟩ (fun i H _ p => p.1.seq hA) ?_ ?_
  · rintro i x H hx h
    refine ⟨hw _, ?_⟩
    have hi := (List.getElem?_eq_some_iff.mp hx).1
    have ho : sel[i]? = some (sel[i]'(by omega)) := List.getElem?_eq_getElem (by omega)
    obtain ⟨s, ys, hD, hy⟩ := id h
    exact hs i x _ H hx ho s ((hS.same s).cons hD) (fun o H4 => match o with
      | some y => ∃ acc, H4 D = some (.lst acc) ∧ acc.length < sizeLine ∧ accP S H1 D ((sel.take (i + 1)).filterMap id) (upd H4 D (.lst (acc ++ [y])))
      | none => accP S H1 D ((sel.take (i + 1)).filterMap id) H4) fun y H4 s4 hO => acc_step nD ho (by omega) h s4 y hO
  · rintro H h
    rw [← hlen, List.take_length] at h
    refine hd H h.1 ?_ (acc_end hS nD h)
    obtain ⟨_, ys, hD, _⟩ := h
    rw [hD]
    exact fun z => nomatch z
/-- maps: each item's data -/
theorem sel_map {α : Type} (l : List α) (f : α → PyData) : (l.map fun x => some (f x)).filterMap id = l.map f := by
  induction l with
  | nil => rfl
  | cons x l ih =>
    show f x :: (l.map fun x => some (f x)).filterMap id = _
    rw [ih]
    rfl
/-- over any walk -/
theorem lc_dW {J : It} {n : Nat} {G : Hp → Prop} {Y : Nat → Hp → V → Hp → Prop} (w : Walk J n G Y) {g : TG} {tt : TT} {te : TE} {vs : List Nat} {σ : L2.St} {H1 : Hp} {D : Addr} {Qd : Hp → Prop} {S : List Addr} (hS : Has S H1) (sel : List (Option PyData)) (nD : H1 D = none) (hlen : sel.length = n) (hz : n < sizeLine)
    (hG : ∀ H', Same H1 H' → G H')
    (hs : ∀ (i : Nat) (o : Option PyData) (H0 : Hp) (x : V) (H' : Hp), i < n → sel[i]? = some o → Same H1 H0 → Has (D :: S) H0 → Y i H0 x H' → ∀ Qt : Option V → Hp → Prop, (∀ y H'', Same H0 H'' → Out (D :: S) H'' o y → Qt y H'') →
      g x (wipe σ vs) H' fun σ2 H2 => wipe σ2 vs = wipe σ vs ∧ tt σ2 H2 fun b H3 => if b = true then te σ2 H3 fun y H4 => Qt (some y) H4 else Qt none H3)
    (hd : ∀ H', Same H1 H' → H' D ≠ none → Dt (rs S H') (.ref D) (.list (sel.filterMap id)) → Qd H') :
    ∃ W : Nat → Nat → Hp → Prop, (∃ m, W 0 m (upd H1 D (.lst []))) ∧ ∀ i m H, W i m H →
      (J.stop i H ∧ Qd H) ∨ (J.go i H ∧ ∃ Nx : Hp → Prop, (∀ H', Nx H' → ∃ m', m' < m ∧ W (i + 1) m' H') ∧ ∀ x H', J.yld i H x H' → g x (wipe σ vs) H' fun σ2 H2 => wipe σ2 vs = wipe σ vs ∧ tt σ2 H2 fun b H3 =>
        if b = true then te σ2 H3 fun y H4 => ∃ acc, H4 D = some (.lst acc) ∧ acc.length < sizeLine ∧ Nx (upd H4 D (.lst (acc ++ [y]))) else Nx H3) := by
  refine lc_it w (fun i H => accP S H1 D ((sel.take i).filterMap id) H) ⟨same_upd nD, [], upd_same, .nil⟩ (fun i H _ p => hG H p.1) ?_ ?_
  · rintro i x H H' hi h y
    have ho : sel[i]? = some (sel[i]'(by omega)) := List.getElem?_eq_getElem (by omega)
    obtain ⟨s, ys, hD, hy⟩ := id h
    exact hs i _ H x H' hi ho s ((hS.same s).cons hD) y (fun o H4 => match o with
      | some y => ∃ acc, H4 D = some (.lst acc) ∧ acc.length < sizeLine ∧ accP S H1 D ((sel.take (i + 1)).filterMap id) (upd H4 D (.lst (acc ++ [y])))
      | none => accP S H1 D ((sel.take (i + 1)).filterMap id) H4) fun y H4 s4 hO => acc_step nD ho (by omega) h s4 y hO
  · rintro H h
    rw [← hlen, List.take_length] at h
    refine hd H h.1 ?_ (acc_end hS nD h)
    obtain ⟨_, ys, hD, _⟩ := h
    rw [hD]
    exact fun z => nomatch z
theorem dt_pairs {K : PySem.W.Frag} {H : Hp} {a : Addr} {ps : List (Int × Int)} (h : Dt H (.ref a) (.list (ps.map pairD))) : PairsAt K H a ps := by
  cases h with
  | lst ha hx =>
    rename_i xs
    have key : ∀ (ps : List (Int × Int)) (xs : List V), DtA H xs (ps.map pairD) → ∃ as : List Addr, xs = as.map V.ref ∧ as.length = ps.length ∧ ∀ (i : Nat) (t : Addr) (p : Int × Int), as[i]? = some t → ps[i]? = some p → SqT K H t [.int p.1, .int p.2] := fun ps => by
      induction ps with
      | nil => intro xs h; cases h; exact ⟨[], rfl, rfl, fun i t p ht => by simp at ht⟩
      | cons p ps ih =>
        intro xs h
        cases h with
        | cons b c =>
          obtain ⟨as, rfl, hl, k⟩ := ih _ c
          obtain ⟨t, ys, rfl, ht, hy⟩ := (show Dt H _ (.tuple [.int p.1, .int p.2]) from b).tupE
          rw [DtA.intsE (ns := [p.1, p.2]) hy] at ht
          refine ⟨t :: as, rfl, by rw [List.length_cons, List.length_cons, hl], fun i u q hu hq => ?_⟩
          cases i with
          | zero =>
            rw [List.getElem?_cons_zero] at hu hq
            cases hu
            cases hq
            exact .inl (.inl ht)
          | succ i =>
            rw [List.getElem?_cons_succ] at hu hq
            exact k i u q hu hq
    obtain ⟨as, rfl, hl, k⟩ := key ps xs hx
    exact ⟨as, .inl (.inl ha), hl, k⟩
end My

namespace My
open PySem PySem.Spec PyProof.Rows L2 Pre
/-! ### promises for callers that stand in no repr: within them repr of lists shows its items -/
structure FnG (P : Program) (w : World) (K : PySem.W.Frag) (mg : Str → Option Value) (base : Heap) (CX : CXT) (k : Nat) (f : Addr) (fd : FuncData) (ps : List Str) (sp : Sp) : Prop where
  many : ∀ xs H Q E, sp xs H Q E → xs.length = ps.length
  does : ∀ (A : Around), A.guards = some [] → Room k A → ∀ (fr : List Env) (t : Shared) (H : Hp), Env0 P w K mg base A fr t H → ∀ (ar : Args) (us : List Value) (xs : List V), BindsTo t fd ar (ps.zip us) → Vals xs us →
    ∀ (Q : VK) (E : XK), sp xs H Q E → codeAny (model P w) A (.call (.ref f) ar) (CR CX fr P w H t Q E) t
section
variable {P : Program} {w : World} {K : PySem.W.Frag} {mg : Str → Option Value} {base : Heap} {CX : CXT} {k : Nat} {f : Addr} {fd : FuncData} {ps : List Str} {sp : Sp}
theorem FnG.of (F : FnOk P w K mg base CX k f fd ps sp) : FnG P w K mg base CX k f fd ps sp :=
  ⟨F.len, fun A _ hr fr t H e ar us xs b v Q E h => F.run A fr t H ar us xs Q E hr e b v h⟩
/-- a body makes a promise -/
theorem FnG.body {x qual : Str} {pr : Arguments} {bd : List Stmt} {sc : Scope} {dvs : List V} {kws : List (Str × V)} {N : List Str} (F : FunD K x qual pr bd sc dvs kws f fd) (S : FnScope N ps sc) (hm : ∀ xs H Q E, sp xs H Q E → xs.length = ps.length)
    (go : ∀ (cv : Value) (A : Around) (fr : List Env) (t : Shared) (H : Hp) (xs : List V) (Q : VK) (E : XK), A.guards = some [] → Room k (A.deeper (envOfC qual sc t.heap.objs.size f cv)) → sp xs H Q E →
      ∃ τ, PSs (cxOf CX P w K mg base N qual sc f cv A fr t H E) bd τ ∧ τ { nx := fun _ H1 => Q .non H1, rt := Q } (start N xs) H) : FnG P w K mg base CX (k + 1) f fd ps sp := by
  obtain ⟨c0, d0, dv, kv, dc, pm, an, cv, ct, sl, rfl, lk, hcode, _, _⟩ := F.ex
  refine ⟨hm, fun A gd hr fr t H e0 ar us xs hb rv Q E hs => ?_⟩
  have hin : K.In t.heap := e0.mod.kin.keeps fun b o z => (e0.bs b o z).1
  have hno : t.heap.NoLimit := e0.mod.nolimit.keeps fun b o z => (e0.bs b o z).1
  refine codeAny_call_function hr.depth (hin _ _ lk) rfl S.co S.gen rfl (PySem.W.codeRec_of hin hcode) (hb _ _ _ _ ?_)
  refine wpAny_newFunctionEnv_cells S.kind (fun y hy => ?_) fun env he t1 hx => ?_
  · obtain ⟨n, u⟩ := y
    rcases S.par n (List.of_mem_zip hy).1 with z | z
    · exact Or.inl z
    · exact Or.inr ⟨z, PySem.W.cellsFrom_some _ _ _ (Or.inl z)⟩
  · subst he
    refine ⟨hno.keeps hx.toInCall.keep, codeAny_func ?_⟩
    obtain ⟨τ, hτ, hq⟩ := go cv A fr t H xs Q E gd (hr.deeper _) hs
    have J := inv_start (CX := CX) (E := E) S hr.hd e0 (hm _ _ _ _ hs) rv hx
    refine wpAny_mono (hτ.run [] t1 (start N xs) H _ J hq) (fun fl t2 h2 => ?_) fun _ _ z => z
    cases fl with
    | brk => exact False.elim h2.choose_spec.choose_spec.2
    | cont => exact False.elim h2.choose_spec.choose_spec.2
    | next =>
      obtain ⟨σ2, H2, J2, q2⟩ := h2
      exact ⟨V.non, H2, J2.os, J2.bare, J2.base, J2.hok, rfl, q2⟩
    | ret u =>
      obtain ⟨v2, σ2, H2, J2, r2, q2⟩ := h2
      exact ⟨v2, H2, J2.os, J2.bare, J2.base, J2.hok, r2, q2⟩
end
section
variable {X : Cx} {CX : CXT} {k : Nat} {f : Addr} {fd : FuncData} {ps : List Str} {sp : Sp} {dvs : List V} {ds : List Value} {E : XK} {x : Str} {p pos : Pos} {e : Expr} {es : List Expr} {t : TA}
theorem go_g {pins : List (Addr × Obj)} {σ : L2.St} {H : Hp} {s : Shared} {Q : VK} {us : List Value} {xs : List V} (F : FnG X.prog X.w X.K X.mg X.base CX k f fd ps sp) (gd : X.A.guards = some []) (hr : Room k X.A) (hb : Binds X.K fd ps ds) (hd : Vals dvs ds)
    (hx : Passes CX X E) (I : Inv X pins σ H s) (r : Vals xs us) (h : sp (xs ++ dvs) H Q E) : wpAny (model X.prog X.w) X.A (call (.ref f) us) (EP X pins σ Q) X.xe s := by
  have rr := Vals.append r hd
  refine wpAny_call (codeAny_mono (F.does X.A gd hr X.stack s H I.env0 ⟨us, []⟩ (us ++ ds) (xs ++ dvs) (hb s us I.kIn (by rw [← rr.length]; exact F.many _ _ _ _ h)) rr Q E h) fun z s2 hz => ?_)
  match z, hz with
  | .error e, hz => exact hx pins σ H s e s2 I hz
  | .ok (.ret u), hz => exact I.after hz
theorem pe_callG (F : FnG X.prog X.w X.K X.mg X.base CX k f fd ps sp) (gd : X.A.guards = some []) (hr : Room k X.A) (hg : Gl X x) (hm : X.mg x = some (.ref f)) (hk : PySem.W.keepIn X.K (.ref f) = true) (hb : Binds X.K fd ps ds) (hd : Vals dvs ds) (hx : Passes CX X E)
    (ha : PA X (e :: es) t) (hdb : (x == ("__debug__" : Str)) = false := by decide) (he : starEach (e :: es) X.env = (false, eval e X.env) :: starEach es X.env := by rfl) (hpl : (backTo pos (starEach es X.env)).any (·.1) = false := by rfl) :
    PE X (.Call (.Name x p) (e :: es) [] pos) (tCall sp dvs E t) :=
  ⟨fun pins s σ H Q I h => wpAny_Call_Name_kw (ld_glob I hg hm (PySem.W.callWith_K (h₀ := X.base) I.ok.mod.kin hk (thn (ha.run pos pins s σ H _ I h) fun us s1 ⟨vs, H1, J, r, q⟩ => ⟨J.kIn, go_g F gd hr hb hd hx J r q⟩) he hpl) hdb)⟩
theorem pe_callG0 (F : FnG X.prog X.w X.K X.mg X.base CX k f fd ps sp) (gd : X.A.guards = some []) (hr : Room k X.A) (hg : Gl X x) (hm : X.mg x = some (.ref f)) (hk : PySem.W.keepIn X.K (.ref f) = true) (hb : Binds X.K fd ps ds) (hd : Vals dvs ds) (hx : Passes CX X E)
    (hdb : (x == ("__debug__" : Str)) = false := by decide) : PE X (.Call (.Name x p) [] [] pos) (tCall sp dvs E tNil) :=
  ⟨fun pins s σ H Q I h => wpAny_Call_Name_kw (ld_glob I hg hm (PySem.W.callWith_K0 I.kIn hk (go_g (us := []) F gd hr hb hd hx I .nil h)) hdb)⟩
end
/-! ### repr -/
def rRepr (K : PySem.W.Frag) : List V → Hp → VK → Prop := fun xs H Q => ∃ (x : V) (d : PyData), xs = [x] ∧ Dp K H x d ∧ d.showable = true ∧ SeqAt.shaped d = true ∧ d.shown.length ≤ sizeLine ∧ Q (.str d.shown) H
theorem call_repr {X : Cx} (gd : X.A.guards = some []) (hu : X.A.units + 65 < cLine) : CallR X (.builtin "repr") (rRepr X.K) := by
  intro pins s σ H xs us Q I r h
  obtain ⟨x, d, rfl, hd, hs, hsh, hl, q⟩ := h
  cases r with
  | cons rx rr =>
    cases rr
    rename_i u
    have hlay : d.canLay0 = true := SeqAt.canLay_of_shaped hsh
    have hdep : d.depth ≤ 64 := by
      have z : (d.canLay0 && decide (d.depth ≤ 64)) = true := hsh
      exact of_decide_eq_true (Bool.and_eq_true_iff.mp z).2
    obtain ⟨as, rd⟩ := Dp.reads I d x u hd rx
    have fin : ∀ h' v tk, (∀ b o, s.heap.get? b = some o → h'.get? b = some o) → EP X pins σ Q (.str d.shown v) { s with heap := h', toks := tk } := fun h' v tk hk => ⟨.str d.shown, H, I.kept hk, ⟨v, rfl⟩, q⟩
    cases hd with
    | non => cases rx; exact PySem.P.repr_of_none (fin _ _ _ fun _ _ z => z)
    | bl b => cases rx; exact PySem.P.repr_of_bool (fin _ _ _ fun _ _ z => z)
    | int i => obtain ⟨t, rfl⟩ := rx; exact PySem.P.repr_of_int (of_decide_eq_true hs) (fin _ _ _ fun _ _ z => z)
    | str y => obtain ⟨t, rfl⟩ := rx; exact PySem.P.repr_of_str (fin _ _ _ fun _ _ z => z) hl
    | lst _ _ => cases rx; exact repr_of_reads' rd hs (PyData.noDict_hsm (PyData.hasDict_of_canLay _ hlay)) gd (by omega) (fun _ _ z => z) fin hl
    | tup _ _ => cases rx; exact repr_of_reads' rd hs (PyData.noDict_hsm (PyData.hasDict_of_canLay _ hlay)) gd (by omega) (fun _ _ z => z) fin hl
theorem k_repr {X : Cx} (K : PySem.W.Frag) (h : X.K = K) (gd : X.A.guards = some []) (hu : X.A.units + 65 < cLine) : CallR X (.builtin "repr") (rRepr K) := by subst h; exact call_repr gd hu
theorem hu65 {k : Nat} {A : Around} (r : Room k A) : A.units + 65 < cLine := by have := r.un; omega
/-- rows of whole numbers, shown -/
theorem dp_ints {K : PySem.W.Frag} {H : Hp} : ∀ ns : List Int, DpAll K H (ns.map V.int) (ns.map PyData.int)
  | [] => .nil
  | n :: ns => .cons (.int n) (dp_ints ns)
theorem dp_row {K : PySem.W.Frag} {H : Hp} {a : Addr} {ns : List Int} (h : SqL K H a (ns.map V.int)) : Dp K H (.ref a) (.list (ns.map PyData.int)) := .lst h (dp_ints ns)
def shownR (ns : List Int) : Str := PyData.shown (.list (ns.map PyData.int))
theorem ints_lay : ∀ ns : List Int, PyData.canLayAll0 (ns.map PyData.int) = true
  | [] => rfl
  | n :: ns => by simp [PyData.canLayAll0, PyData.canLay0, ints_lay ns]
theorem ints_depth : ∀ ns : List Int, PyData.depthAll (ns.map PyData.int) ≤ 1
  | [] => by simp [PyData.depthAll]
  | n :: ns => by
    have := ints_depth ns
    simp only [List.map_cons, PyData.depthAll, PyData.depth]
    omega
theorem row_shaped (ns : List Int) : SeqAt.shaped (.list (ns.map PyData.int)) = true := by
  have h := ints_depth ns
  show (PyData.canLay0 (.list (ns.map PyData.int)) && decide (PyData.depth (.list (ns.map PyData.int)) ≤ 64)) = true
  rw [Bool.and_eq_true]
  exact ⟨by simp only [PyData.canLay0]; exact ints_lay ns, decide_eq_true (by simp only [PyData.depth]; omega)⟩
theorem ints_show : ∀ ns : List Int, (∀ n ∈ ns, n.natAbs.log2 < 1920) → PyData.showableAll (ns.map PyData.int) = true
  | [], _ => rfl
  | n :: ns, h => by
    simp only [List.map_cons, PyData.showableAll, PyData.showable]
    rw [decide_eq_true (h n List.mem_cons_self), ints_show ns fun m hm => h m (List.mem_cons_of_mem _ hm)]
    rfl
/-! ### sorted, any number -/
theorem k_sortedI {X : Cx} (K : PySem.W.Frag) (h : X.K = K) : CallR X (.builtin "sorted") (rSortedI K) := by subst h; exact cr_sortedI
def rSortedA (K : PySem.W.Frag) : List V → Hp → VK → Prop := fun vs H Q => ∃ (a : Addr) (xs : List Str), vs = [V.ref a] ∧ SqL K H a (xs.map V.str) ∧ ∀ (ys : List Str) (p : Addr), ys.Perm xs → sortedS ys = true → H p = none → Q (.ref p) (upd H p (.lst (ys.map V.str)))
theorem k_sortedS {X : Cx} (K : PySem.W.Frag) (h : X.K = K) : CallR X (.builtin "sorted") (rSortedA K) := by
  subst h
  intro pins s σ H vs us Q I r h
  obtain ⟨a, xs, rfl, hs, q⟩ := h
  obtain ⟨its, rv, hl, hz⟩ := I.list hs
  rw [Vals.ref1 r]
  refine sorted_strsAny hl.isList rv.strs (by rw [← rv.length]; exact hz) fun out ys h1 h2 h3 => ?_
  obtain ⟨ep, at_⟩ := sortedAll_at s.heap its out
  refine ⟨.ref _, upd H (s.heap.objs.size + 1) (.lst (ys.map V.str)), I.laid (t' := s.toks) (fun _ _ => sortedAll_old) (Nat.le_succ _) ⟨?_, out.toList, ep, vals_of_strs h1, at_⟩, rfl, q ys _ h2 h3 (I.hok.fresh (Nat.le_succ _))⟩
  rw [List.length_map, h2.length_eq]
  rw [List.length_map] at hz
  exact hz
theorem sorted_le : ∀ (l : List Str) (p : Str), risingS p l = true → (p :: l).Pairwise fun x y => x.cps.toList ≤ y.cps.toList
  | [], p, _ => List.pairwise_singleton _ _
  | x :: r, p, h => by
    obtain ⟨h1, h2⟩ := Bool.and_eq_true_iff.mp (show (!ltCps x.cps.toList p.cps.toList && risingS x r) = true from h)
    have hpx : p.cps.toList ≤ x.cps.toList := by
      rw [ltCps_eq] at h1
      intro z
      rw [decide_eq_true z] at h1
      cases h1
    have ih := sorted_le r x h2
    refine List.pairwise_cons.mpr ⟨fun y hy => ?_, ih⟩
    rcases List.mem_cons.mp hy with rfl | hy
    · exact hpx
    · exact List.le_trans hpx ((List.pairwise_cons.mp ih).1 y hy)
theorem sorted_uniq {xs ys : List Str} (h : xs.Perm ys) (hx : sortedS xs = true) (hy : sortedS ys = true) : xs = ys := by
  have pw : ∀ l : List Str, sortedS l = true → l.Pairwise fun x y => x.cps.toList ≤ y.cps.toList := fun l hl => by
    cases l with
    | nil => exact .nil
    | cons x r => exact sorted_le r x hl
  refine List.Perm.eq_of_pairwise (fun x y _ _ h1 h2 => ?_) (pw _ hx) (pw _ hy) h
  have e := List.le_antisymm h1 h2
  cases x with | mk a => cases y with | mk b => exact congrArg Str.mk (Array.toList_inj.mp e)
end My

namespace My
open PySem PySem.Spec PyProof.Rows L2 Pre
/-! ### the end of a law whose promise stands in no repr -/
/-- the script, tracked or one of the module's own objects -/
theorem script_env {P : Program} {w : World} {K : PySem.W.Frag} {mg mb : Str → Option Value} {a : Addr} {t : Shared} {us : List Value} {ns : List Int} (hin : K.In t.heap) (hgl : t.heap.Ns mainGlobals mg) (hbl : t.heap.Ns builtinsNs mb)
    (hbo : ∀ x : Str, x ≠ "__name__" → mb x = bootBuiltins x) (hno : t.heap.NoLimit) (hgs : t.gens = #[]) (at_a : t.heap.get? a = some { cls := .type "list", data := .seq us.toArray }) (ints_ : IntsAre us ns) (few : ns.length ≤ sizeLine) :
    ∃ (H : Hp) (base : Heap), Only H ∧ SqL K H a (ns.map V.int) ∧ K.In base ∧ base.Ns mainGlobals mg ∧ Env0 P w K mg base callerA [] t H := by
  have rv := vals_ints ints_
  have ul := ints_.length
  -- the module and the rest of the heap, whatever is tracked at a alone
  have rest : ∀ H : Hp, Only H → (∀ b, b ≠ a → H b = none) → (H a = none ∨ K.lookup a = none) → HOk P w H t.heap → SqL K H a (ns.map V.int) → ∃ (H : Hp) (base : Heap), Only H ∧ SqL K H a (ns.map V.int) ∧ K.In base ∧ base.Ns mainGlobals mg ∧ Env0 P w K mg base callerA [] t H := by
    intro H h1 h2 h3 h4 h5
    have dictFree : ∀ b o, t.heap.get? b = some o → (∃ es n, o.data = Data.dict es n) → H b = none := fun b o z ⟨es, n, d⟩ => by
      by_cases hb : b = a
      · rw [hb, at_a] at z
        cases z
        cases d
      · exact h2 b hb
    have nsKept : ∀ (b : Addr) (m : Str → Option Value), t.heap.Ns b m → (hidT t.heap H).Ns b m := fun b m z => by
      obtain ⟨o, es, ep, z1, z2, z3⟩ := z
      exact ⟨o, es, ep, hidT_get z1 (dictFree b o z1 ⟨_, _, z2⟩), z2, z3⟩
    have inKept : K.In (hidT t.heap H) := fun b o z => hidT_get (hin b o z) (by
      by_cases hb : b = a
      · rcases h3 with z3 | z3
        · rw [hb]; exact z3
        · rw [hb, z3] at z; cases z
      · exact h2 b hb)
    obtain ⟨mc, l1, l2⟩ := hno
    refine ⟨H, hidT t.heap H, h1, h5, inKept, nsKept _ _ hgl, ⟨rfl, ⟨inKept, nsKept _ _ hgl, ⟨mb, nsKept _ _ hbl, hbo⟩, ⟨mc, nsKept _ _ l1, l2⟩⟩, fun b o z => of_hidT z, ?_, trivial, fun b z => (nomatch z), h4, .of_eq hgs⟩⟩
    rw [hidT_size]
    exact Nat.le_refl _
  cases hk : K.lookup a with
  | some o =>
    have z := hin a o hk
    rw [at_a] at z
    cases z
    exact rest (fun _ => none) (fun _ => .inl rfl) (fun _ _ => rfl) (.inl rfl) (fun _ _ z => nomatch z) (.inr ⟨_, us.toArray, _, hk, rfl, rfl, rfl, by rw [List.size_toArray, ul]; exact few, by simpa using rv⟩)
  | none =>
    refine rest (upd (fun _ => none) a (.frz { cls := .type "list", data := .seq us.toArray } (.lst (ns.map V.int)))) (fun b => ?_) (fun b hb => upd_ne hb) (.inr hk) (fun b u z => ?_) (.inl (.inr ⟨_, upd_same⟩))
    · by_cases hb : b = a
      · rw [hb]; exact .inr ⟨_, _, upd_same⟩
      · exact .inl (upd_ne hb)
    · by_cases hb : b = a
      · subst hb
        rw [upd_same] at z
        cases z
        exact ⟨at_a, by rw [List.length_map]; exact few, us, _, rv, at_a⟩
      · rw [upd_ne hb] at z
        cases z
theorem end_g {l : PySem.W.OpenLaw} {n k : Nat} {q : Program} {loose : List Str} {XP : (Str → Option Value) → Heap → Prop} {YP : World → Heap → Prop} {d : DefRec} {x : Str} (hn : l.most = some n) (hn2 : n ≤ sizeLine) (hdf : d.params.defaults = []) (hr : Room k callerA)
    (F : ∀ (w : World) (mg : Str → Option Value) (fa : Addr) (h : Heap), YP w h → h.Ns mainGlobals mg → mg d.name = some (.ref fa) →
      ∃ (K : PySem.W.Frag) (fd : FuncData) (sp : Sp), K.In h ∧ (∀ (s : Shared) (u : Value), BindsTo s fd ⟨[u], []⟩ [(x, u)]) ∧
        (∀ (H : Hp) (a : Addr) (ns : List Int), ns.length ≤ n → SqL K H a (ns.map V.int) → sp [.ref a] H (fun v _ => v = .bl true) fun _ _ _ => False) ∧
        ∀ base : Heap, K.In base → base.Ns mainGlobals mg → FnG l.prog w K mg base CX0 k fa fd [x] sp) :
    PySem.W.WalkO q loose XP YP l.row.toRowW d [] (fun f vs => PySem.call f vs) := by
  refine Att.attach_call hn hdf fun w s₀ t mg mb fa o pm cd doc a us ns G Y ho hd hcd hmg at_a hi hl hg => ?_
  obtain ⟨K, fd, sp, hin, hb, hsp, hF⟩ := F w mg fa _ Y G.T.g hmg
  obtain ⟨H, base, only, hS, hKb, hgb, e0⟩ := script_env (P := l.prog) (w := w) hin G.T.g G.T.b G.T.builtins G.T.nolimit hg at_a hi (Nat.le_trans hl hn2)
  refine codeAny_mono ((hF base hKb hgb).does callerA rfl hr [] t H e0 ⟨[.ref a], []⟩ [.ref a] [.ref a] (hb t (.ref a)) (.cons rfl .nil) _ _ (hsp H a ns hl hS)) fun r t2 h => ?_
  match r, h with
  | .error e, h => exact (show False from h).elim
  | .ok (.ret u), h =>
    obtain ⟨v, H2, os, bare, un, hok2, rv, qv⟩ := h
    have qv : v = .bl true := qv
    subst qv
    have rv : u = Value.bool true := rv
    subst rv
    refine ⟨rfl, OldK.of_keep fun b o z => ?_, os, bare⟩
    rcases only b with hb | ⟨ob, ys, hb⟩
    · exact un.keep b o z hb (fun y => nomatch y) (fun y => nomatch y)
    · have z1 : t.heap.get? b = some ob := (e0.hok b _ hb).1
      have z2 : t2.heap.get? b = some ob := (hok2 b _ (un.frzs b ob _ hb)).1
      rw [z] at z1
      cases z1
      exact z2
end My

namespace My
open PySem PySem.Spec PyProof.Rows L2 Pre
/-! ### repr of an empty dict, too -/
def rReprX (K : PySem.W.Frag) : List V → Hp → VK → Prop := fun xs H Q => rRepr K xs H Q ∨ ∃ a : Addr, xs = [.ref a] ∧ H a = some (.dK []) ∧ Q (.str (PyData.dict []).shown) H
theorem call_reprX {X : Cx} (gd : X.A.guards = some []) (hu : X.A.units + 65 < cLine) : CallR X (.builtin "repr") (rReprX X.K) := by
  intro pins s σ H xs us Q I r h
  rcases h with h | ⟨a, rfl, ha, q⟩
  · exact call_repr gd hu pins s σ H xs us Q I r h
  · cases r with
    | cons rx rr =>
      cases rr
      cases rx
      have hx := I.hok a _ ha
      obtain ⟨t1, t2, vs, rel, o, es, ep, ho, h2, h3, h4⟩ := hx
      obtain rfl : vs = [] := by cases rel; rfl
      have he : es.toList = [] := by
        have h5 := h4.2.1
        cases hl : es.toList with
        | nil => rfl
        | cons e r => rw [hl] at h5; cases h5
      have rd : Reads s.heap (.ref a) (.dict []) [a] := .dict (as := []) (bs := []) ho h2.1 h3 (by rw [he]; exact .nil) (by rw [he]; exact .nil)
      have hd : (PyData.dict []).depth ≤ 64 := by decide +kernel
      have fin : ∀ h' v tk, (∀ b o, s.heap.get? b = some o → h'.get? b = some o) → EP X pins σ Q (.str (PyData.dict []).shown v) { s with heap := h', toks := tk } := fun h' v tk hk => ⟨.str (PyData.dict []).shown, H, I.kept hk, ⟨v, rfl⟩, q⟩
      exact repr_of_reads' rd rfl (fun _ m => by
        rw [List.mem_singleton] at m
        rw [← m] at t2
        simp at t2) gd (by omega) (fun _ _ z => z) fin (by decide +kernel)
theorem k_reprX {X : Cx} (K : PySem.W.Frag) (h : X.K = K) (gd : X.A.guards = some []) (hu : X.A.units + 65 < cLine) : CallR X (.builtin "repr") (rReprX K) := by subst h; exact call_reprX gd hu
end My

namespace My
open PySem PySem.Spec PyProof.Rows L2 Pre
theorem _root_.L2.TyX.same {K : PySem.W.Frag} {H H' : Hp} {v : V} {t : Value} (s : Same H H') (h : TyX K H v t) : TyX K H' v t := by
  cases h with
  | base b => exact .base (by
    cases b with
    | non => exact .non
    | bl y => exact .bl y
    | int i => exact .int i
    | str y => exact .str y
    | flt y => exact .flt y
    | lst e => exact .lst (s _ _ e)
    | frz e => exact .frz (s _ _ e)
    | tup e => exact .tup (s _ _ e)
    | dK e => exact .dK (s _ _ e)
    | dT e => exact .dT (s _ _ e)
    | ins e cl ha hn htk hm => exact .ins (s _ _ e) cl ha hn htk hm)
  | byt b => exact .byt b
  | set e => exact .set (s _ _ e)
  | kList e c => exact .kList e c
  | kTuple e c => exact .kTuple e c
  | kDict e c => exact .kDict e c
  | fTuple e => exact .fTuple (s _ _ e)
  | fDict e => exact .fDict (s _ _ e)
end My

namespace My
open PySem PySem.Spec PyProof.Rows L2
theorem small4 {n : Nat} (h : n ≤ 100000) : n < sizeLine := by rw [sizeLine_eq]; omega
end My

namespace My
/-! ### rows by rules, modulo a number: a rule that leads another one -/
/-- a sum of the first n -/
def sumN : Nat → (Nat → Int) → Int
  | 0, _ => 0
  | n + 1, f => sumN n f + f n
theorem sumN_congr {n : Nat} {f g : Nat → Int} (h : ∀ i, i < n → f i = g i) : sumN n f = sumN n g := by
  induction n with
  | zero => rfl
  | succ n ih => rw [sumN, sumN, ih fun i hi => h i (by omega), h n (Nat.lt_succ_self n)]
theorem sumN_zero (n : Nat) : sumN n (fun _ => 0) = 0 := by
  induction n with
  | zero => rfl
  | succ n ih => rw [sumN, ih]; rfl
theorem sumN_none {n : Nat} {f : Nat → Int} (h : ∀ i, i < n → f i = 0) : sumN n f = 0 := (sumN_congr h).trans (sumN_zero n)
theorem sumN_add (n : Nat) (f g : Nat → Int) : sumN n (fun i => f i + g i) = sumN n f + sumN n g := by
  induction n with
  | zero => rfl
  | succ n ih => rw [sumN, sumN, sumN, ih]; omega
theorem sumN_mul (n : Nat) (c : Int) (f : Nat → Int) : sumN n (fun i => c * f i) = c * sumN n f := by
  induction n with
  | zero => simp [sumN]
  | succ n ih => rw [sumN, sumN, ih, Int.mul_add]
theorem sumN_front (n : Nat) (f : Nat → Int) : sumN (n + 1) f = f 0 + sumN n fun i => f (i + 1) := by
  induction n with
  | zero => simp [sumN]
  | succ n ih => rw [sumN, ih, sumN]; omega
theorem sumN_rev (n : Nat) (f : Nat → Int) : sumN n (fun i => f (n - 1 - i)) = sumN n f := by
  induction n generalizing f with
  | zero => rfl
  | succ n ih =>
    rw [sumN_front, sumN]
    have : (sumN n fun i => f (n + 1 - 1 - (i + 1))) = sumN n f := by
      rw [← ih f]
      refine sumN_congr fun i hi => ?_
      congr 1
      omega
    rw [this]
    show f n + _ = _
    omega
theorem sumN_cut {n k : Nat} (h : k ≤ n) {f : Nat → Int} (z : ∀ i, k ≤ i → i < n → f i = 0) : sumN n f = sumN k f := by
  induction n with
  | zero => obtain rfl : k = 0 := by omega
            rfl
  | succ n ih =>
    by_cases e : k = n + 1
    · rw [e]
    · rw [sumN, z n (by omega) (Nat.lt_succ_self n), ih (by omega) fun i h1 h2 => z i h1 (by omega)]
      omega
theorem sumN_swap (n m : Nat) (f : Nat → Nat → Int) : sumN n (fun i => sumN m (f i)) = sumN m fun j => sumN n fun i => f i j := by
  induction n with
  | zero => simp only [sumN]; exact (sumN_zero m).symm
  | succ n ih =>
    rw [sumN, ih, ← sumN_add]
    rfl
theorem sumN_dvd {N : Int} {n : Nat} {f : Nat → Int} (h : ∀ i, i < n → N ∣ f i) : N ∣ sumN n f := by
  induction n with
  | zero => exact Int.dvd_zero N
  | succ n ih => exact Int.dvd_add (ih fun i hi => h i (by omega)) (h n (Nat.lt_succ_self n))
theorem sumN_only {n k : Nat} (hk : k < n) {f : Nat → Int} (z : ∀ i, i < n → i ≠ k → f i = 0) : sumN n f = f k := by
  induction n with
  | zero => omega
  | succ n ih =>
    rw [sumN]
    by_cases e : k = n
    · subst e
      rw [sumN_none fun i hi => z i (by omega) (by omega)]
      omega
    · rw [ih (by omega) fun i hi ne => z i (by omega) ne, z n (Nat.lt_succ_self n) (fun q => e q.symm)]
      omega
section
variable (N : Int) (w : List Int)
/-- the row follows the rule w -/
def Fol (r : Nat → Int) : Prop := ∀ i, N ∣ r (i + w.length) - sumN w.length fun b => w.getD b 0 * r (i + w.length - 1 - b)
/-- a power led down: k weights done -/
def updW (f : Nat → Int) (top k : Nat) : Nat → Int := fun p => if p < top ∧ top - 1 - p < k then (f p + f top * w.getD (top - 1 - p) 0) % N else f p
/-- powers from the t-th on led down -/
def ledN (f : Nat → Int) (L : Nat) : Nat → Nat → Int
  | 0 => f
  | t + 1 => updW N w (ledN f L t) (L - 1 - t) w.length
/-- what is led: the rule q as powers -/
def iniP (q : List Int) : Nat → Int := fun p => q.getD p 0 % N
/-- how many powers there are at first -/
def lenP (q : List Int) : Nat := max q.length w.length
def redP (q : List Int) : Nat → Int := ledN N w (iniP N q) (lenP w q) (lenP w q - w.length)
variable {N w}
theorem upd_same_sum (hN : 0 < N) {f r : Nat → Int} (hr : Fol N w r) {top : Nat} (ht : w.length ≤ top) (i : Nat) : N ∣ sumN top (fun p => updW N w f top w.length p * r (i + p)) - sumN (top + 1) fun p => f p * r (i + p) := by
  rw [sumN]
  have h1 : N ∣ sumN top (fun p => updW N w f top w.length p * r (i + p)) - sumN top fun p => (f p + if top - 1 - p < w.length then f top * w.getD (top - 1 - p) 0 else 0) * r (i + p) := by
    have e : sumN top (fun p => updW N w f top w.length p * r (i + p)) - sumN top (fun p => (f p + if top - 1 - p < w.length then f top * w.getD (top - 1 - p) 0 else 0) * r (i + p)) = sumN top fun p => (updW N w f top w.length p - (f p + if top - 1 - p < w.length then f top * w.getD (top - 1 - p) 0 else 0)) * r (i + p) := by
      rw [Int.sub_eq_add_neg, ← Int.neg_one_mul, ← sumN_mul, ← sumN_add]
      refine sumN_congr fun p _ => ?_
      rw [Int.neg_one_mul, ← Int.sub_eq_add_neg, Int.sub_mul]
    rw [e]
    refine sumN_dvd fun p hp => ?_
    refine Int.dvd_mul_of_dvd_left ?_
    unfold updW
    by_cases c : top - 1 - p < w.length
    · rw [if_pos ⟨hp, c⟩, if_pos c]
      have := Int.dvd_self_sub_emod (x := f p + f top * w.getD (top - 1 - p) 0) (m := N)
      rw [← Int.neg_sub]
      exact Int.dvd_neg.mpr this
    · rw [if_neg fun z => c z.2, if_neg c, Int.add_zero, Int.sub_self]
      exact Int.dvd_zero N
  have h2 : sumN top (fun p => (f p + if top - 1 - p < w.length then f top * w.getD (top - 1 - p) 0 else 0) * r (i + p)) = sumN top (fun p => f p * r (i + p)) + f top * sumN w.length fun b => w.getD b 0 * r (i + top - 1 - b) := by
    have e1 : (fun p => (f p + if top - 1 - p < w.length then f top * w.getD (top - 1 - p) 0 else 0) * r (i + p)) = fun p => f p * r (i + p) + (if top - 1 - p < w.length then f top * w.getD (top - 1 - p) 0 else 0) * r (i + p) := by
      funext p
      rw [Int.add_mul]
    rw [e1, sumN_add]
    congr 1
    rw [← sumN_mul]
    have e2 : sumN top (fun p => (if top - 1 - p < w.length then f top * w.getD (top - 1 - p) 0 else 0) * r (i + p)) = sumN top fun p => (fun b => (if b < w.length then f top * w.getD b 0 else 0) * r (i + top - 1 - b)) (top - 1 - p) := by
      refine sumN_congr fun p hp => ?_
      dsimp only
      rw [show i + top - 1 - (top - 1 - p) = i + p by omega]
    refine e2.trans ((sumN_rev top fun b => (if b < w.length then f top * w.getD b 0 else 0) * r (i + top - 1 - b)).trans ?_)
    rw [sumN_cut ht fun b h1 h2 => by rw [if_neg (by omega), Int.zero_mul]]
    refine sumN_congr fun b hb => ?_
    rw [if_pos hb, Int.mul_assoc]
  have h3 : N ∣ f top * sumN w.length (fun b => w.getD b 0 * r (i + top - 1 - b)) - f top * r (i + top) := by
    rw [← Int.mul_sub]
    refine Int.dvd_mul_of_dvd_right ?_
    have := hr (i + top - w.length)
    rw [show i + top - w.length + w.length = i + top by omega] at this
    rw [← Int.neg_sub]
    exact Int.dvd_neg.mpr this
  rw [h2] at h1
  have h4 := Int.dvd_add h1 h3
  have e : ∀ a b c d : Int, (a - (b + c)) + (c - d) = a - (b + d) := fun a b c d => by omega
  rw [e] at h4
  exact h4
theorem led_sum (hN : 0 < N) {f r : Nat → Int} (hr : Fol N w r) {L : Nat} (i : Nat) : ∀ t, t + w.length ≤ L → N ∣ sumN (L - t) (fun p => ledN N w f L t p * r (i + p)) - sumN L fun p => f p * r (i + p)
  | 0, _ => by rw [Nat.sub_zero]; exact ⟨0, by rw [Int.mul_zero]; exact Int.sub_self _⟩
  | t + 1, h => by
    have ih := led_sum hN (f := f) hr (L := L) i t (by omega)
    have h1 := upd_same_sum hN (f := ledN N w f L t) hr (top := L - 1 - t) (by omega) i
    rw [show L - 1 - t + 1 = L - t by omega] at h1
    rw [show L - (t + 1) = L - 1 - t by omega]
    have := Int.dvd_add h1 ih
    rw [show ∀ a b c : Int, a - b + (b - c) = a - c from fun a b c => by omega] at this
    exact this
/-- led powers tell the same of all rows by the rule -/
theorem red_sum (hN : 0 < N) {r : Nat → Int} (hr : Fol N w r) (q : List Int) (i : Nat) : N ∣ sumN w.length (fun p => redP N w q p * r (i + p)) - sumN q.length fun p => q.getD p 0 * r (i + p) := by
  have h1 := led_sum hN (f := iniP N q) hr (L := lenP w q) i (lenP w q - w.length) (by unfold lenP; omega)
  rw [show lenP w q - (lenP w q - w.length) = w.length by unfold lenP; omega] at h1
  have h2 : N ∣ sumN (lenP w q) (fun p => iniP N q p * r (i + p)) - sumN q.length fun p => q.getD p 0 * r (i + p) := by
    rw [← sumN_cut (n := lenP w q) (k := q.length) (f := fun p => q.getD p 0 * r (i + p)) (by unfold lenP; omega) fun p h1 _ => by rw [List.getD_eq_getElem?_getD, List.getElem?_eq_none h1]; exact Int.zero_mul _]
    have e : sumN (lenP w q) (fun p => iniP N q p * r (i + p)) - sumN (lenP w q) (fun p => q.getD p 0 * r (i + p)) = sumN (lenP w q) fun p => (iniP N q p - q.getD p 0) * r (i + p) := by
      rw [Int.sub_eq_add_neg, ← Int.neg_one_mul, ← sumN_mul, ← sumN_add]
      refine sumN_congr fun p _ => ?_
      rw [Int.neg_one_mul, ← Int.sub_eq_add_neg, Int.sub_mul]
    rw [e]
    refine sumN_dvd fun p _ => Int.dvd_mul_of_dvd_left ?_
    unfold iniP
    have := Int.dvd_self_sub_emod (x := q.getD p 0) (m := N)
    rw [← Int.neg_sub]
    exact Int.dvd_neg.mpr this
  have := Int.dvd_add h1 h2
  rw [show ∀ a b c : Int, a - b + (b - c) = a - c from fun a b c => by omega] at this
  exact this
theorem led_range (hN : 0 < N) {f : Nat → Int} (hf : ∀ p, 0 ≤ f p ∧ f p < N) (L : Nat) : ∀ t p, 0 ≤ ledN N w f L t p ∧ ledN N w f L t p < N
  | 0, p => hf p
  | t + 1, p => by
    rw [ledN]
    unfold updW
    split
    · exact ⟨Int.emod_nonneg _ (by omega), Int.emod_lt_of_pos _ hN⟩
    · exact led_range hN hf L t p
theorem red_range (hN : 0 < N) (q : List Int) (p : Nat) : 0 ≤ redP N w q p ∧ redP N w q p < N := led_range hN (fun p => ⟨Int.emod_nonneg _ (by omega), Int.emod_lt_of_pos _ hN⟩) _ _ _
/-- where all is led to nought, all rows by the rule tell nought -/
theorem red_none (hN : 0 < N) {r : Nat → Int} (hr : Fol N w r) {q : List Int} (hz : ∀ p, p < w.length → redP N w q p = 0) (i : Nat) : N ∣ sumN q.length fun p => q.getD p 0 * r (i + p) := by
  have := red_sum hN hr q i
  rw [sumN_none fun p hp => by rw [hz p hp, Int.zero_mul], Int.zero_sub] at this
  exact Int.dvd_neg.mp this
/-- the last one alone -/
def Alo (m : Nat) (r : Nat → Int) : Prop := (∀ p, p + 1 < m → r p = 0) ∧ (0 < m → r (m - 1) = -1)
/-- otherwise the row from the last one alone tells where it first does not -/
theorem red_some (hN : 0 < N) {r : Nat → Int} (hr : Fol N w r) (ha : Alo w.length r) {q : List Int} {t : Nat} (ht : t < w.length) (hn : redP N w q t ≠ 0) (hz : ∀ p, t < p → p < w.length → redP N w q p = 0) :
    (∀ i, i < w.length - 1 - t → N ∣ sumN q.length fun p => q.getD p 0 * r (i + p)) ∧ ¬ N ∣ sumN q.length fun p => q.getD p 0 * r (w.length - 1 - t + p) := by
  constructor
  · intro i hi
    have := red_sum hN hr q i
    rw [sumN_none fun p hp => ?_, Int.zero_sub] at this
    · exact Int.dvd_neg.mp this
    · by_cases c : t < p
      · rw [hz p c hp, Int.zero_mul]
      · rw [ha.1 _ (by omega), Int.mul_zero]
  · intro hd
    have h1 := red_sum hN hr q (w.length - 1 - t)
    have h2 := Int.dvd_add h1 hd
    rw [show ∀ a b : Int, a - b + b = a from fun a b => by omega, sumN_only (k := t) ht fun p hp ne => ?_] at h2
    · rw [show w.length - 1 - t + t = w.length - 1 by omega, ha.2 (by omega), Int.mul_neg_one] at h2
      have h3 := Int.dvd_neg.mp h2
      obtain ⟨r1, r2⟩ := red_range (w := w) hN q t
      have := Int.le_of_dvd (by omega) h3
      omega
    · by_cases c : t < p
      · rw [hz p c hp, Int.zero_mul]
      · rw [ha.1 _ (by omega), Int.mul_zero]
end
/-- the rule as powers -/
def asP (u : List Int) : List Int := u.reverse.map (fun x => -x) ++ [1]
theorem asP_len (u : List Int) : (asP u).length = u.length + 1 := by unfold asP; rw [List.length_append, List.length_map, List.length_reverse]; rfl
/-- what the powers tell: the next one less the sum -/
theorem asP_sum (u : List Int) (r : Nat → Int) (i : Nat) : (sumN (asP u).length fun p => (asP u).getD p 0 * r (i + p)) = r (i + u.length) - sumN u.length fun b => u.getD b 0 * r (i + u.length - 1 - b) := by
  rw [asP_len, sumN]
  have e1 : (asP u).getD u.length 0 = 1 := by
    unfold asP
    rw [List.getD_eq_getElem?_getD, List.getElem?_append_right (by rw [List.length_map, List.length_reverse]; exact Nat.le_refl _), List.length_map, List.length_reverse, Nat.sub_self]
    rfl
  have e2 : (sumN u.length fun p => (asP u).getD p 0 * r (i + p)) = - sumN u.length fun b => u.getD b 0 * r (i + u.length - 1 - b) := by
    rw [← sumN_rev u.length fun b => u.getD b 0 * r (i + u.length - 1 - b), ← Int.neg_one_mul, ← sumN_mul]
    refine sumN_congr fun p hp => ?_
    have e3 : (asP u).getD p 0 = -(u.getD (u.length - 1 - p) 0) := by
      unfold asP
      rw [List.getD_eq_getElem?_getD, List.getElem?_append_left (by rw [List.length_map, List.length_reverse]; exact hp), List.getElem?_map, List.getElem?_reverse hp, List.getD_eq_getElem?_getD, List.getElem?_eq_getElem (by omega)]
      rfl
    rw [e3, show i + u.length - 1 - (u.length - 1 - p) = i + p by omega, Int.neg_mul, Int.neg_one_mul]
  rw [e1, e2, Int.one_mul]
  omega
theorem fol_asP {N : Int} {w : List Int} {r : Nat → Int} : Fol N w r ↔ ∀ i, N ∣ sumN (asP w).length fun p => (asP w).getD p 0 * r (i + p) := by
  unfold Fol
  constructor
  · intro h i; rw [asP_sum]; exact h i
  · intro h i; have := h i; rwa [asP_sum] at this
end My

namespace My
open PySem PySem.Spec PyProof.Rows L2 Pre
/-! ### whole numbers, and what is none -/
/-- what is no whole number -/
def BadN (K : PySem.W.Frag) (H : Hp) (v : V) : Prop := (∃ b : Bool, v = .bl b) ∨ ∃ T : String, TyX K H v (.type T) ∧ kitB T "int" = some false
def NumV (K : PySem.W.Frag) (H : Hp) (v : V) (lo : Int) (hi : Option Int) (b : Bool) : Prop := (∃ i : Int, v = .int i ∧ b = decide (lo ≤ i ∧ ∀ j, hi = some j → i ≤ j)) ∨ (BadN K H v ∧ b = false)
theorem BadN.same {K : PySem.W.Frag} {H H' : Hp} {v : V} (s : Same H H') (h : BadN K H v) : BadN K H' v := by
  rcases h with h | ⟨T, ty, e⟩
  · exact .inl h
  · exact .inr ⟨T, ty.same s, e⟩
theorem NumV.same {K : PySem.W.Frag} {H H' : Hp} {v : V} {lo : Int} {hi : Option Int} {b : Bool} (s : Same H H') (h : NumV K H v lo hi b) : NumV K H' v lo hi b := by
  rcases h with h | ⟨h, e⟩
  · exact .inl h
  · exact .inr ⟨h.same s, e⟩
/-- a bound: a number or None -/
def hiV : Option Int → V
  | some j => .int j
  | none => .non
local macro_rules | `(tactic| walk_at "go") => `(tactic| repeat (first | (with_reducible first | refine iteT ?_ | refine iteF ?_ | refine iteNtt ?_ | refine iteNff ?_ | refine iteET (by omega) ?_ | refine iteEF (by omega) ?_ | refine iteENT (by omega) ?_ | refine iteENF (by omega) ?_ | refine iteDT (by omega) ?_ | refine iteDF (by omega) ?_ | refine iteNT (by omega) ?_ | refine iteNF (by omega) ?_) | refine ⟨_, rfl, ?_⟩ | refine ⟨_, _, rfl, rfl, ?_⟩ | refine ⟨_, _, rfl, ?_⟩ | refine ⟨rfl, ?_⟩ | refine .inl ⟨_, rfl, ?_⟩ | refine .inr ⟨_, rfl, ?_⟩))
local macro_rules | `(tactic| walk_at "b") => `(tactic| try dsimp (config := { proj := false, iota := false, eta := false, zeta := false }) only)
section
variable {P : Program} {w : World} {K : PySem.W.Frag} {mg : Str → Option Value} {base : Heap} [pf : Sup.PF P fileS]
def sp_is_whole (K : PySem.W.Frag) : Sp := fun vs H Q _ => ∃ v : V, vs = [v] ∧ ((∃ i : Int, v = .int i ∧ Q (.bl true) H) ∨ (BadN K H v ∧ Q (.bl false) H))
theorem G_is_whole (T : Top K mg) : FnOk P w K mg base CX0 1 T.f_is_whole T.fd_is_whole ["value"] (sp_is_whole K) := by
  refine T.F_is_whole.ok sc_is_whole (fun vs H Q E h => by obtain ⟨v, rfl, _⟩ := h; rfl) (fun cdv A outer s H vs Q E hr h => ?_)
  obtain ⟨v, rfl, h⟩ := h
  refine ⟨_, PSs.nox (pss_one (ps_ret (pe_and (pe_callB (k_isi K rfl) (by rfl) T.n_isinstance (by decide +kernel) (pa_cons (pv 0) (pa_cons (pe_bltn (v := .ty "int") (by rfl) T.n_int (by decide +kernel) rfl) pa_nil))) (pe_one (pe_not (pe_callB (k_isi K rfl) (by rfl) T.n_isinstance (by decide +kernel) (pa_cons (pv 0) (pa_cons (pe_bltn (v := .ty "bool") (by rfl) T.n_bool (by decide +kernel) rfl) pa_nil)))))))), ?_⟩
  rcases h with ⟨i, rfl, q⟩ | ⟨⟨b, rfl⟩ | ⟨T, ty, hT⟩, q⟩
  · refine ⟨_, rfl, _, _, _, _, true, rfl, .ty _, .base (.int i), kit_ty (by decide +kernel), true, rfl, iteT ?_⟩
    exact ⟨_, rfl, _, _, _, _, false, rfl, .ty _, .base (.int i), kit_ty (by decide +kernel), false, rfl, q⟩
  · refine ⟨_, rfl, _, _, _, _, true, rfl, .ty _, .base (.bl b), kit_ty (by decide +kernel), true, rfl, iteT ?_⟩
    exact ⟨_, rfl, _, _, _, _, true, rfl, .ty _, .base (.bl b), kit_ty (by decide +kernel), true, rfl, q⟩
  · exact ⟨_, rfl, _, _, _, _, false, rfl, .ty _, ty, kit_ty hT, false, rfl, iteF q⟩
def sp_is_between (K : PySem.W.Frag) : Sp := fun vs H Q _ => ∃ (v : V) (lo : Int) (hi : Option Int) (b : Bool), vs = [v, .int lo, hiV hi] ∧ NumV K H v lo hi b ∧ Q (.bl b) H
theorem G_is_between (T : Top K mg) : FnOk P w K mg base CX0 2 T.f_is_between T.fd_is_between ["value", "low", "high"] (sp_is_between K) := by
  refine T.F_is_between.ok sc_is_between (fun vs H Q E h => by obtain ⟨v, lo, hi, b, rfl, _⟩ := h; rfl) (fun cdv A outer s H vs Q E hr h => ?_)
  obtain ⟨v, lo, hi, b, rfl, hv, q⟩ := h
  refine ⟨_, PSs.nox (pss_one (ps_ret (pe_and (pe_call (G_is_whole (P := P) T) (hr.mono (by decide)) (by rfl) T.g_is_whole T.F_is_whole.kp T.b_is_whole .nil pass0 (pa_cons (pv 0) pa_nil)) (pe_and (pe_cmpR op_le (pv 1) (pv 0) (nomark _)) (pe_one (pe_or (pe_cmpR op_isN (pv 2) pe_non (nomark _)) (pe_one (pe_cmpR op_le (pv 0) (pv 2) (nomark _))))))))), ?_⟩
  rcases hv with ⟨i, rfl, rfl⟩ | ⟨hv, rfl⟩
  · refine ⟨_, rfl, _, rfl, .inl ⟨i, rfl, true, rfl, iteT ?_⟩⟩
    refine ⟨_, rfl, _, rfl, _, _, rfl, rfl, _, rfl, ite2 (fun e => ?_) (fun e => ?_)⟩
    · have e1 : lo ≤ i := of_decide_eq_true e
      cases hi with
      | none =>
        refine ⟨_, rfl, rfl, _, rfl, iteT ?_⟩
        rw [decide_eq_true ⟨e1, fun j h => nomatch h⟩] at q
        exact q
      | some j =>
        refine ⟨_, rfl, rfl, _, rfl, iteF ⟨_, rfl, _, rfl, _, _, rfl, rfl, ?_⟩⟩
        have e2 : decide (lo ≤ i ∧ ∀ j', some j = some j' → i ≤ j') = decide (i ≤ j) := by
          by_cases h : i ≤ j
          · rw [decide_eq_true h, decide_eq_true]
            exact ⟨e1, fun j' e => by cases e; exact h⟩
          · rw [decide_eq_false h, decide_eq_false]
            exact fun z => h (z.2 j rfl)
        rw [e2] at q
        exact q
    · have e1 : ¬ lo ≤ i := fun h => e (decide_eq_true h)
      rw [decide_eq_false fun z => e1 z.1] at q
      exact q
  · exact ⟨_, rfl, _, rfl, .inr ⟨hv, false, rfl, iteF q⟩⟩
def sp_check_number (K : PySem.W.Frag) (C : Addr) : Sp := fun vs H Q E => ∃ (v : V) (lo : Int) (hi : Option Int) (b : Bool), vs = [v, .int lo, hiV hi] ∧ NumV K H v lo hi b ∧ (b = true → Q .non H) ∧ (b = false → ∀ d, H d = none → E (.ref C) (some d) (upd H d (.xd [("value", v)])))
theorem G_check_number (T : Top K mg) : FnOk P w K mg base (L2.CX P w) 3 T.f_check_number T.fd_check_number ["number", "low", "high"] (sp_check_number K T.C_InvalidNumber) := by
  refine T.F_check_number.ok (CX := L2.CX P w) sc_check_number (fun vs H Q E h => by obtain ⟨v, lo, hi, b, rfl, _⟩ := h; rfl) (fun cdv A outer s H vs Q E hr h => ?_)
  obtain ⟨v, lo, hi, b, rfl, hv, q1, q2⟩ := h
  refine ⟨_, (pss_one (ps_if (pt_not (pt_val (pe_call (G_is_between (P := P) T) (hr.mono (by decide)) (by rfl) T.g_is_between T.F_is_between.kp T.b_is_between .nil pass0 (pa_cons (pv 0) (pa_cons (pv 1) (pa_cons (pv 2) pa_nil))))))
    (pss_one (ps_raise rfl (takes_of rfl rfl rfl rfl) (pmk_oex T.er_InvalidNumber.sup.T T.er_InvalidNumber.ini T.er_InvalidNumber.ity (G_InvalidNumber___init__ (P := P) (CX := CX0) T) (hr.mono (by decide)) T.er_InvalidNumber.bnd .nil pass0 (by rfl) T.gc_InvalidNumber (pa_cons (pv 0) pa_nil))))
    pss_nil)), ?_⟩
  refine ⟨_, rfl, _, rfl, _, rfl, v, lo, hi, b, rfl, hv, _, rfl, ?_⟩
  cases b with
  | true => exact iteF (q1 rfl)
  | false => exact iteT ⟨_, rfl, mk_sup fun d nd => q2 rfl d nd⟩
end
end My

namespace My
open PySem PySem.Spec PyProof.Rows L2 Pre
/-! ### texts of bits -/
def sgn (b : Bool) : Nat := if b = true then 49 else 48
def bS (bs : List Bool) : Str := ⟨(bs.map sgn).toArray⟩
theorem bS_len (bs : List Bool) : (bS bs).length = bs.length := by simp [bS, Str.length]
theorem bS_size (bs : List Bool) : (bS bs).cps.size = bs.length := by simp [bS]
theorem bS_app (a b : List Bool) : bS a ++ bS b = bS (a ++ b) := by
  show (⟨(bS a).cps ++ (bS b).cps⟩ : Str) = _
  unfold bS
  rw [List.map_append, List.append_toArray]
theorem sgn_inj {a b : Bool} (h : sgn a = sgn b) : a = b := by cases a <;> cases b <;> first | rfl | (simp [sgn] at h)
theorem bS_inj {a b : List Bool} (h : bS a = bS b) : a = b := by
  have e : a.map sgn = b.map sgn := by
    have := congrArg (fun z : Str => z.cps.toList) h
    simpa [bS] using this
  induction a generalizing b with
  | nil => cases b with
    | nil => rfl
    | cons _ _ => simp at e
  | cons x r ih => cases b with
    | nil => simp at e
    | cons y q =>
      rw [List.map_cons, List.map_cons, List.cons.injEq] at e
      have hr : bS r = bS q := by
        have z : r.map sgn = q.map sgn := e.2
        unfold bS
        rw [z]
      rw [sgn_inj e.1, ih hr e.2]
theorem bS_at {bs : List Bool} {i c : Nat} (h : (bS bs).cps[i]? = some c) : ∃ b, bs[i]? = some b ∧ (⟨#[c]⟩ : Str) = bS [b] := by
  have e : (bs.map sgn)[i]? = some c := by
    unfold bS at h
    rw [← h]
    simp
  rw [List.getElem?_map] at e
  obtain ⟨b, hb, rfl⟩ := Option.map_eq_some_iff.mp e
  exact ⟨b, hb, rfl⟩
theorem bS_atI {bs : List Bool} {i : Nat} {b : Bool} (h : bs[i]? = some b) : atI (bS bs).cps.toList (i : Int) = some (sgn b) := by
  refine atI_nat ?_
  unfold bS
  simp [h]
theorem bS_one (b : Bool) : (⟨#[sgn b]⟩ : Str) = bS [b] := rfl
theorem str_one : (("1" : String) : Str) = bS [true] := by decide +kernel
theorem str_nil : (("" : String) : Str) = bS [] := by decide +kernel
theorem str_zero : (("0" : String) : Str) = bS [false] := by decide +kernel
theorem dec_bS (a b : List Bool) : decide (V.str (bS a) = V.str (bS b)) = decide (a = b) := by
  by_cases h : a = b
  · subst h; simp
  · rw [decide_eq_false h, decide_eq_false]
    exact fun z => h (bS_inj (V.str.inj z))
theorem one_sign (b : Bool) : decide (V.str (bS [b]) = V.str (("1" : String) : Str)) = b := by
  rw [str_one, dec_bS]
  cases b <;> rfl
theorem reps_list (c : List Nat) : ∀ (k : Nat) (acc : List Nat), (List.replicate k c.toArray).foldl (· ++ ·) acc.toArray = (acc ++ (List.replicate k c).flatten).toArray
  | 0, acc => by simp
  | k + 1, acc => by
    rw [List.replicate_succ, List.foldl_cons, List.append_toArray, reps_list c k, List.replicate_succ, List.flatten_cons, List.append_assoc]
theorem bS_mul (k : Nat) : Txt.mul (("0" : String) : Str) (k : Int) = bS (List.replicate k false) := by
  rw [str_zero]
  unfold Txt.mul
  by_cases h0 : (k : Int) < 1
  · rw [if_pos h0, show k = 0 by omega]
    rfl
  · rw [if_neg h0]
    by_cases h1 : k = 1
    · subst h1
      rfl
    · rw [if_neg (by
        rw [Bool.or_eq_true, beq_iff_eq, beq_iff_eq, bS_len]
        simp
        omega), Int.toNat_natCast]
      have := reps_list [48] k []
      unfold bS
      rw [List.map_replicate]
      show (⟨(List.replicate k ([48] : List Nat).toArray).foldl (· ++ ·) ([] : List Nat).toArray⟩ : Str) = _
      rw [this, List.nil_append]
      have e : (List.replicate k [48]).flatten = List.replicate k 48 := by
        clear this h0 h1
        induction k with
        | zero => rfl
        | succ k ih => rw [List.replicate_succ, List.flatten_cons, ih, List.replicate_succ]; rfl
      rw [e]
      rfl
theorem join_bits (bs : List Bool) : Txt.join (("" : String) : Str) (bs.map fun b => bS [b]) = bS bs := by
  rw [TL.join_eq]
  have e0 : TL.tl ((("" : String) : Str)) = [] := by rw [str_nil]; rfl
  have key : ∀ bs : List Bool, TL.joinL [] ((bs.map fun b => bS [b]).map TL.tl) = bs.map sgn := by
    intro bs
    induction bs with
    | nil => rfl
    | cons b r ih =>
      cases r with
      | nil => rfl
      | cons c q =>
        show TL.tl (bS [b]) ++ ([] ++ TL.joinL [] (((c :: q).map fun b => bS [b]).map TL.tl)) = _
        rw [ih]
        rfl
  have h := TL.tl_join (("" : String) : Str) (bs.map fun b => bS [b])
  rw [e0, key] at h
  unfold bS
  rw [← h]
  exact (TL.mk_tl _).symm
section
variable {X : Cx}
def rRepS : R2 := fun x y H Q => ∃ (z : Str) (n : Nat), x = .str z ∧ y = .int n ∧ z.length ≤ 100 ∧ n ≤ 10000 ∧ Q (.str (Txt.mul z n)) H
theorem op_rep_str : OpR X (binaryOp .Mult) rRepS := by
  intro pins s σ H x y v u Q I rx ry h
  obtain ⟨z, n, rfl, rfl, hz, hn, q⟩ := h
  obtain ⟨t, rfl⟩ := rx
  obtain ⟨t', rfl⟩ := ry
  exact PySem.SB.mul (mulOk_of 100 10000 hz (by omega) (by omega) (by decide) (by decide)) fun t' k => ⟨.str (Txt.mul z n), H, I.tok _, ⟨_, rfl⟩, q⟩
end
end My

set_option linter.all false
set_option linter.unusedSectionVars false
namespace My
/-! ### rests of rows by a check: numbers stand for sums of powers over two -/
def red (w W x : Nat) : Nat := if x >>> w = 1 then x ^^^ W else x
def remN (w W : Nat) : Nat → Nat → Nat
  | 0, _ => 0
  | k + 1, n => red w W (2 * remN w W k (n / 2) + n % 2)
def rem (w W n : Nat) : Nat := remN w W (n.log2 + 1) n
def sh (w W a : Nat) : Nat := red w W (2 * a)
structure Ck (w W : Nat) : Prop where
  pos : 1 ≤ w
  lo : 2 ^ w < W
  hi : W < 2 ^ (w + 1)
  odd : W % 2 = 1
theorem red_zero (w W : Nat) : red w W 0 = 0 := by simp [red]
theorem shr1 {w x : Nat} (h : x < 2 ^ (w + 1)) : x >>> w = 1 ↔ 2 ^ w ≤ x := by
  rw [Nat.shiftRight_eq_div_pow]
  have hp : 0 < 2 ^ w := Nat.pow_pos (by omega)
  rw [Nat.pow_succ] at h
  constructor
  · intro e
    by_cases c : x < 2 ^ w
    · rw [Nat.div_eq_of_lt c] at e
      omega
    · omega
  · intro c
    have h1 : 1 ≤ x / 2 ^ w := (Nat.le_div_iff_mul_le hp).mpr (by omega)
    have h2 : x / 2 ^ w < 2 := (Nat.div_lt_iff_lt_mul hp).mpr (by omega)
    omega
theorem bit_top {w x : Nat} (h : x < 2 ^ (w + 1)) : x.testBit w = decide (2 ^ w ≤ x) := by
  have e := Nat.testBit_eq_decide_div_mod_eq (x := x) (i := w)
  rw [e]
  have hp : 0 < 2 ^ w := Nat.pow_pos (by omega)
  rw [Nat.pow_succ] at h
  by_cases c : 2 ^ w ≤ x
  · have h1 : 1 ≤ x / 2 ^ w := (Nat.le_div_iff_mul_le hp).mpr (by omega)
    have h2 : x / 2 ^ w < 2 := (Nat.div_lt_iff_lt_mul hp).mpr (by omega)
    have h3 : x / 2 ^ w = 1 := by omega
    simp [h3, c]
  · have h3 : x / 2 ^ w = 0 := Nat.div_eq_of_lt (by omega)
    simp [h3, c]
theorem xor_low {w x W : Nat} (hx : x < 2 ^ (w + 1)) (hW : W < 2 ^ (w + 1)) (h1 : 2 ^ w ≤ x) (h2 : 2 ^ w ≤ W) : x ^^^ W < 2 ^ w := by
  refine Nat.lt_pow_two_of_testBit _ fun i hi => ?_
  rw [Nat.testBit_xor]
  rcases Nat.lt_or_ge w i with c | c
  · have e : (2 : Nat) ^ (w + 1) ≤ 2 ^ i := Nat.pow_le_pow_right (by omega) c
    rw [Nat.testBit_lt_two_pow (by omega), Nat.testBit_lt_two_pow (by omega)]
    rfl
  · have e : i = w := by omega
    subst e
    rw [bit_top hx, bit_top hW, decide_eq_true h1, decide_eq_true h2]
    rfl
theorem xor_high {w x y : Nat} (hx : x < 2 ^ w) (hy : y < 2 ^ (w + 1)) (h2 : 2 ^ w ≤ y) : 2 ^ w ≤ x ^^^ y ∧ x ^^^ y < 2 ^ (w + 1) := by
  have hp : 2 ^ (w + 1) = 2 ^ w * 2 := Nat.pow_succ ..
  have hl : x ^^^ y < 2 ^ (w + 1) := Nat.xor_lt_two_pow (by omega) hy
  refine ⟨?_, hl⟩
  have e := bit_top hl
  rw [Nat.testBit_xor, bit_top (show x < 2 ^ (w + 1) by omega), bit_top hy, decide_eq_true h2, decide_eq_false (show ¬ 2 ^ w ≤ x by omega)] at e
  exact of_decide_eq_true e.symm
section
variable {w W : Nat} (C : Ck w W)
include C
theorem red_lt {x : Nat} (h : x < 2 ^ (w + 1)) : red w W x < 2 ^ w := by
  unfold red
  have s := shr1 h
  by_cases c : 2 ^ w ≤ x
  · rw [if_pos (s.mpr c)]
    exact xor_low h C.hi c (Nat.le_of_lt C.lo)
  · rw [if_neg (fun z => c (s.mp z))]
    omega
theorem red_id {x : Nat} (h : x < 2 ^ w) : red w W x = x := by
  unfold red
  have hp : 2 ^ (w + 1) = 2 ^ w * 2 := Nat.pow_succ ..
  rw [if_neg fun z => by
    have := (shr1 (w := w) (x := x) (by omega)).mp z
    omega]
theorem red_hi {x : Nat} (h : x < 2 ^ (w + 1)) (c : 2 ^ w ≤ x) : red w W x = x ^^^ W := by
  unfold red
  rw [if_pos ((shr1 h).mpr c)]
theorem red_xor {x y : Nat} (hx : x < 2 ^ (w + 1)) (hy : y < 2 ^ (w + 1)) : red w W (x ^^^ y) = red w W x ^^^ red w W y := by
  have hp : 2 ^ (w + 1) = 2 ^ w * 2 := Nat.pow_succ ..
  by_cases c : 2 ^ w ≤ x <;> by_cases d : 2 ^ w ≤ y
  · rw [red_hi C hx c, red_hi C hy d, red_id C (xor_low hx hy c d)]
    rw [Nat.xor_assoc, Nat.xor_comm y W, ← Nat.xor_assoc W W y, Nat.xor_self, Nat.zero_xor]
  · have hh := xor_high (show y < 2 ^ w by omega) hx c
    rw [red_hi C hx c, red_id C (show y < 2 ^ w by omega), Nat.xor_comm x y, red_hi C hh.2 hh.1]
    rw [Nat.xor_comm y x, Nat.xor_assoc, Nat.xor_assoc, Nat.xor_comm y W]
  · have hh := xor_high (show x < 2 ^ w by omega) hy d
    rw [red_hi C hy d, red_id C (show x < 2 ^ w by omega), red_hi C hh.2 hh.1, Nat.xor_assoc]
  · rw [red_id C (show x < 2 ^ w by omega), red_id C (show y < 2 ^ w by omega), red_id C (Nat.xor_lt_two_pow (show x < 2 ^ w by omega) (show y < 2 ^ w by omega))]
omit C in
theorem remN_stab : ∀ (k j n : Nat), n < 2 ^ k → n < 2 ^ j → remN w W k n = remN w W j n
  | 0, 0, _, _, _ => rfl
  | 0, j + 1, n, h, _ => by
    have e : n = 0 := by omega
    subst e
    have : ∀ j, remN w W j 0 = 0 := fun j => by
      induction j with
      | zero => rfl
      | succ j ih => rw [remN, Nat.zero_div, ih]; exact red_zero ..
    rw [this, this]
  | k + 1, 0, n, _, h => by
    have e : n = 0 := by omega
    subst e
    have : ∀ j, remN w W j 0 = 0 := fun j => by
      induction j with
      | zero => rfl
      | succ j ih => rw [remN, Nat.zero_div, ih]; exact red_zero ..
    rw [this, this]
  | k + 1, j + 1, n, h1, h2 => by
    rw [Nat.pow_succ] at h1 h2
    rw [remN, remN, remN_stab k j (n / 2) (by omega) (by omega)]
omit C in
theorem rem_fuel {k n : Nat} (h : n < 2 ^ k) : rem w W n = remN w W k n := remN_stab _ _ _ Nat.lt_log2_self h
omit C in
theorem rem_zero : rem w W 0 = 0 := by rw [rem_fuel (k := 0) (by omega)]; rfl
omit C in
theorem rem_step (n : Nat) : rem w W n = red w W (2 * rem w W (n / 2) + n % 2) := by
  have h : n < 2 ^ (n.log2 + 1) := Nat.lt_log2_self
  rw [rem_fuel (k := n.log2) (n := n / 2) (by rw [Nat.pow_succ] at h; omega)]
  rfl
omit C in
theorem rem_bit (m b : Nat) (hb : b < 2) : rem w W (2 * m + b) = red w W (2 * rem w W m + b) := by
  rw [rem_step, show (2 * m + b) / 2 = m by omega, show (2 * m + b) % 2 = b by omega]
theorem rem_lt (n : Nat) : rem w W n < 2 ^ w := by
  induction n using Nat.strongRecOn with
  | _ n ih =>
    by_cases h : n = 0
    · subst h
      rw [rem_zero]
      exact Nat.pow_pos (by omega)
    · rw [rem_step]
      refine red_lt C ?_
      have := ih (n / 2) (by omega)
      rw [Nat.pow_succ]
      omega
omit C in
theorem xor_bit (a b p q : Nat) (hp : p < 2) (hq : q < 2) : (2 * a + p) ^^^ (2 * b + q) = 2 * (a ^^^ b) + (p ^^^ q) := by
  have hpq : p ^^^ q < 2 := Nat.xor_lt_two_pow (n := 1) hp hq
  have e1 : ((2 * a + p) ^^^ (2 * b + q)) / 2 = a ^^^ b := by rw [Nat.xor_div_two, show (2 * a + p) / 2 = a by omega, show (2 * b + q) / 2 = b by omega]
  have e2 : ((2 * a + p) ^^^ (2 * b + q)) % 2 = p ^^^ q := by
    have h := Nat.testBit_xor (2 * a + p) (2 * b + q) 0
    rw [Nat.testBit_zero, Nat.testBit_zero, Nat.testBit_zero] at h
    rw [show (2 * a + p) % 2 = p by omega, show (2 * b + q) % 2 = q by omega] at h
    have c1 : p = 0 ∨ p = 1 := by omega
    have c2 : q = 0 ∨ q = 1 := by omega
    generalize (2 * a + p) ^^^ (2 * b + q) = N at h ⊢
    have z : (0 : Nat) ^^^ 0 = 0 := rfl
    have o : (1 : Nat) ^^^ 1 = 0 := rfl
    have zo : (0 : Nat) ^^^ 1 = 1 := rfl
    have oz : (1 : Nat) ^^^ 0 = 1 := rfl
    rcases c1 with e3 | e3 <;> rcases c2 with e4 | e4 <;> rw [e3, e4] at h ⊢ <;> simp only [z, o, zo, oz] <;> simp at h <;> omega
  omega
theorem rem_xor : ∀ n m : Nat, rem w W (n ^^^ m) = rem w W n ^^^ rem w W m := by
  intro n
  induction n using Nat.strongRecOn with
  | _ n ih =>
    intro m
    by_cases h : n = 0
    · subst h
      rw [Nat.zero_xor, rem_zero, Nat.zero_xor]
    · have e := xor_bit (n / 2) (m / 2) (n % 2) (m % 2) (by omega) (by omega)
      rw [show 2 * (n / 2) + n % 2 = n by omega, show 2 * (m / 2) + m % 2 = m by omega] at e
      have hb : n % 2 ^^^ m % 2 < 2 := Nat.xor_lt_two_pow (n := 1) (by omega) (by omega)
      rw [e, rem_bit _ _ hb, ih _ (by omega), rem_step n, rem_step m]
      have l1 := rem_lt C (n / 2)
      have l2 := rem_lt C (m / 2)
      have hp : 2 ^ (w + 1) = 2 ^ w * 2 := Nat.pow_succ ..
      rw [← red_xor C (by omega) (by omega), xor_bit _ _ _ _ (by omega) (by omega)]
theorem rem_small : ∀ n : Nat, n < 2 ^ w → rem w W n = n := by
  intro n
  induction n using Nat.strongRecOn with
  | _ n ih =>
    intro hn
    by_cases h : n = 0
    · subst h
      exact rem_zero
    · rw [rem_step, ih _ (by omega) (by omega), show 2 * (n / 2) + n % 2 = n by omega]
      exact red_id C hn
theorem rem_self : rem w W W = 0 := by
  have h := C.hi
  have hl := C.lo
  have hp : 2 ^ (w + 1) = 2 ^ w * 2 := Nat.pow_succ ..
  rw [rem_step, rem_small C _ (by omega), show 2 * (W / 2) + W % 2 = W by omega, red_hi C h (by omega), Nat.xor_self]
omit C in
theorem rem_dbl (n : Nat) : rem w W (2 * n) = sh w W (rem w W n) := rem_bit n 0 (by omega)
theorem rem_shl (n k : Nat) (h : rem w W n = 0) : rem w W (n <<< k) = 0 := by
  induction k with
  | zero => exact h
  | succ k ih =>
    rw [Nat.shiftLeft_eq, Nat.pow_succ, ← Nat.mul_assoc, Nat.mul_comm, ← Nat.shiftLeft_eq, rem_dbl, ih]
    exact red_zero ..
theorem sh_lt {a : Nat} (h : a < 2 ^ w) : sh w W a < 2 ^ w := red_lt C (by rw [Nat.pow_succ]; omega)
theorem sh_xor {a b : Nat} (ha : a < 2 ^ w) (hb : b < 2 ^ w) : sh w W (a ^^^ b) = sh w W a ^^^ sh w W b := by
  have hp : 2 ^ (w + 1) = 2 ^ w * 2 := Nat.pow_succ ..
  unfold sh
  rw [← red_xor C (by omega) (by omega)]
  have e := xor_bit a b 0 0 (by omega) (by omega)
  simp only [Nat.add_zero, Nat.xor_self] at e
  rw [e]
theorem sh_zero {a : Nat} (ha : a < 2 ^ w) (h : sh w W a = 0) : a = 0 := by
  have hp : 2 ^ (w + 1) = 2 ^ w * 2 := Nat.pow_succ ..
  unfold sh at h
  by_cases c : 2 ^ w ≤ 2 * a
  · rw [red_hi C (by omega) c] at h
    have e : 2 * a = W := by
      have : (2 * a ^^^ W) ^^^ W = 0 ^^^ W := by rw [h]
      rw [Nat.xor_assoc, Nat.xor_self, Nat.xor_zero, Nat.zero_xor] at this
      exact this
    have := C.odd
    omega
  · rw [red_id C (by omega)] at h
    omega
omit C in
theorem xor_eq0 {a b : Nat} : a ^^^ b = 0 ↔ a = b := by
  constructor
  · intro h
    have : (a ^^^ b) ^^^ b = 0 ^^^ b := by rw [h]
    rw [Nat.xor_assoc, Nat.xor_self, Nat.xor_zero, Nat.zero_xor] at this
    exact this
  · rintro rfl
    exact Nat.xor_self _
theorem sh_inj {a b : Nat} (ha : a < 2 ^ w) (hb : b < 2 ^ w) (h : sh w W a = sh w W b) : a = b := by
  have e := sh_xor C ha hb
  rw [h, Nat.xor_self] at e
  exact xor_eq0.mp (sh_zero C (Nat.xor_lt_two_pow ha hb) e)
/-- what is moved by places alone -/
theorem rem_moved (n k : Nat) (h : rem w W (n <<< k) = 0) : rem w W n = 0 := by
  induction k with
  | zero => exact h
  | succ k ih =>
    refine ih ?_
    rw [Nat.shiftLeft_eq, Nat.pow_succ, ← Nat.mul_assoc, Nat.mul_comm, ← Nat.shiftLeft_eq, rem_dbl] at h
    exact sh_zero C (rem_lt C _) h
/-! ### powers -/
omit C in
/-- the rest of a power of x -/
def pw (w W i : Nat) : Nat := rem w W (2 ^ i)
theorem pw_zero : pw w W 0 = 1 := rem_small C 1 (by
  have := C.pos
  have : 2 ^ 1 ≤ 2 ^ w := Nat.pow_le_pow_right (by omega) this
  omega)
omit C in
theorem pw_succ (i : Nat) : pw w W (i + 1) = sh w W (pw w W i) := by
  unfold pw
  rw [Nat.pow_succ, Nat.mul_comm, rem_dbl]
theorem pw_lt (i : Nat) : pw w W i < 2 ^ w := rem_lt C _
theorem pw_ne (i : Nat) : pw w W i ≠ 0 := by
  induction i with
  | zero => rw [pw_zero C]; omega
  | succ i ih => exact fun h => ih (sh_zero C (pw_lt C i) (by rw [← pw_succ]; exact h))
theorem pw_back {a b k : Nat} (h : pw w W (a + k) = pw w W (b + k)) : pw w W a = pw w W b := by
  induction k with
  | zero => exact h
  | succ k ih => exact ih (sh_inj C (pw_lt C _) (pw_lt C _) (by rw [← pw_succ, ← pw_succ]; exact h))
theorem pw_again : ∃ d, 1 ≤ d ∧ d < 2 ^ w ∧ pw w W d = 1 := by
  have hp : 0 < 2 ^ w := Nat.pow_pos (by omega)
  apply Classical.byContradiction
  intro no
  have inj : ∀ i j, i < j → j < 2 ^ w → pw w W i ≠ pw w W j := fun i j hij hj e => by
    refine no ⟨j - i, by omega, by omega, ?_⟩
    have := pw_back C (a := 0) (b := j - i) (k := i) (by rw [Nat.zero_add, show j - i + i = j by omega]; exact e)
    rw [← this, pw_zero C]
  have nd : ((List.range (2 ^ w)).map (pw w W)).Nodup := by
    refine List.pairwise_map.mpr (List.pairwise_lt_range.imp_of_mem fun {a b} ha hb hab => ?_)
    exact inj a b hab (List.mem_range.mp hb)
  have sub : ((List.range (2 ^ w)).map (pw w W)) ⊆ (List.range (2 ^ w)).erase 0 := fun x hx => by
    obtain ⟨i, _, rfl⟩ := List.mem_map.mp hx
    exact (List.mem_erase_of_ne (pw_ne C i)).mpr (List.mem_range.mpr (pw_lt C i))
  have h := nd.length_le_of_subset sub
  rw [List.length_map, List.length_erase_of_mem (List.mem_range.mpr hp), List.length_range] at h
  omega
/-! ### rows of bits -/
omit C in
def numB (bs : List Bool) : Nat := bs.foldl (fun n b => 2 * n + b.toNat) 0
omit C in
theorem foldB (bs : List Bool) (n : Nat) : bs.foldl (fun n b => 2 * n + b.toNat) n = n * 2 ^ bs.length + numB bs := by
  unfold numB
  induction bs generalizing n with
  | nil => simp
  | cons b r ih =>
    rw [List.foldl_cons, List.foldl_cons, ih, ih (2 * 0 + b.toNat), List.length_cons, Nat.pow_succ, Nat.mul_zero, Nat.zero_add, Nat.add_mul, ← Nat.add_assoc]
    congr 1
    congr 1
    rw [Nat.mul_comm 2 n, Nat.mul_assoc, Nat.mul_comm 2]
omit C in
theorem numB_app (a b : List Bool) : numB (a ++ b) = numB a * 2 ^ b.length + numB b := by
  unfold numB
  rw [List.foldl_append, foldB]
  rfl

omit C in
theorem numB_snoc (a : List Bool) (b : Bool) : numB (a ++ [b]) = 2 * numB a + b.toNat := by
  rw [numB_app]
  show numB a * 2 ^ 1 + (2 * 0 + b.toNat) = _
  omega
omit C in
theorem foldB_lt (a : List Bool) : ∀ n : Nat, a.foldl (fun n b => 2 * n + b.toNat) n < (n + 1) * 2 ^ a.length := by
  induction a with
  | nil => intro n; simp
  | cons b r ih =>
    intro n
    rw [List.foldl_cons, List.length_cons, Nat.pow_succ]
    refine Nat.lt_of_lt_of_le (ih _) ?_
    have hb : b.toNat ≤ 1 := Bool.toNat_le b
    have : (2 * n + b.toNat + 1) * 2 ^ r.length ≤ (2 * (n + 1)) * 2 ^ r.length := Nat.mul_le_mul_right _ (by omega)
    refine Nat.le_trans this ?_
    rw [Nat.mul_comm 2 (n + 1), Nat.mul_assoc, Nat.mul_comm 2]
    exact Nat.le_refl _
omit C in
theorem numB_lt (a : List Bool) : numB a < 2 ^ a.length := by
  have := foldB_lt a 0
  rw [Nat.zero_add, Nat.one_mul] at this
  exact this
omit C in
/-- the rest of a row, sign by sign -/
def restB (w W : Nat) (bs : List Bool) : Nat := bs.foldl (fun f b => red w W (2 * f + b.toNat)) 0
omit C in
theorem restB_snoc (a : List Bool) (b : Bool) : restB w W (a ++ [b]) = red w W (2 * restB w W a + b.toNat) := by
  unfold restB
  rw [List.foldl_append]
  rfl
omit C in
theorem foldR (bs : List Bool) (n : Nat) : bs.foldl (fun f b => red w W (2 * f + b.toNat)) (rem w W n) = rem w W (bs.foldl (fun n b => 2 * n + b.toNat) n) := by
  induction bs generalizing n with
  | nil => rfl
  | cons b r ih =>
    rw [List.foldl_cons, List.foldl_cons, ← ih, rem_bit]
    cases b <;> decide
omit C in
theorem restB_eq (bs : List Bool) : restB w W bs = rem w W (numB bs) := by
  have := foldR (w := w) (W := W) bs 0
  rw [rem_zero] at this
  exact this
omit C in
/-- the bits of a number, so many, the greatest first -/
def bitsB (n : Nat) : Nat → List Bool
  | 0 => []
  | k + 1 => n.testBit k :: bitsB n k
omit C in
theorem bitsB_len (n : Nat) : ∀ k, (bitsB n k).length = k
  | 0 => rfl
  | k + 1 => by rw [bitsB, List.length_cons, bitsB_len n k]
omit C in
theorem numB_bits (n : Nat) : ∀ k, numB (bitsB n k) = n % 2 ^ k
  | 0 => by rw [Nat.pow_zero, Nat.mod_one]; rfl
  | k + 1 => by
    have e : numB (bitsB n (k + 1)) = (n.testBit k).toNat * 2 ^ (bitsB n k).length + numB (bitsB n k) := by
      show (bitsB n k).foldl _ (2 * 0 + (n.testBit k).toNat) = _
      rw [foldB, Nat.mul_zero, Nat.zero_add]
    rw [e, bitsB_len, numB_bits n k, Nat.toNat_testBit, Nat.pow_succ]
    have h := Nat.mod_mul (x := n) (a := 2 ^ k) (b := 2)
    rw [h, Nat.mul_comm]
    omega
omit C in
theorem bitsB_get (n : Nat) : ∀ (k i : Nat), i < k → (bitsB n k)[i]? = some (n.testBit (k - 1 - i))
  | 0, _, h => absurd h (by omega)
  | k + 1, 0, _ => rfl
  | k + 1, i + 1, h => by
    rw [bitsB, List.getElem?_cons_succ, bitsB_get n k i (by omega)]
    rw [show k + 1 - 1 - (i + 1) = k - 1 - i by omega]
omit C in
theorem bitsB_num : ∀ (bs : List Bool), bitsB (numB bs) bs.length = bs := by
  intro bs
  have hl := bitsB_len (numB bs) bs.length
  have hn := numB_bits (numB bs) bs.length
  rw [Nat.mod_eq_of_lt (numB_lt bs)] at hn
  generalize bitsB (numB bs) bs.length = cs at hl hn
  induction bs generalizing cs with
  | nil => exact List.length_eq_zero_iff.mp hl
  | cons b r ih =>
    cases cs with
    | nil => simp at hl
    | cons c q =>
      have e : ∀ (x : Bool) (l : List Bool), numB (x :: l) = x.toNat * 2 ^ l.length + numB l := fun x l => by
        show l.foldl _ (2 * 0 + x.toNat) = _
        rw [foldB, Nat.mul_zero, Nat.zero_add]
      have hl2 : q.length = r.length := by simpa using hl
      rw [e, e, hl2] at hn
      have h1 := numB_lt q
      have h2 := numB_lt r
      rw [hl2] at h1
      cases b <;> cases c <;> simp at hn
      · rw [ih _ hl2 hn]
      · omega
      · omega
      · rw [ih _ hl2 (by omega)]
end
end My

namespace My
section
variable {w W : Nat} (C : Ck w W)
/-! ### the order, threes, fours -/
structure IsOrder (w W d : Nat) : Prop where
  pos : 1 ≤ d
  at_ : pw w W d = 1
  ne : ∀ i, 0 < i → i < d → pw w W i ≠ 1
theorem order_uniq {d e : Nat} (a : IsOrder w W d) (b : IsOrder w W e) : d = e := by
  rcases Nat.lt_trichotomy d e with h | h | h
  · exact absurd a.at_ (b.ne d a.pos h)
  · exact h
  · exact absurd b.at_ (a.ne e b.pos h)
def Three (w W p : Nat) : Prop := ∃ q, 0 < q ∧ q < p ∧ pw w W q = pw w W p ^^^ 1
def Four (w W p : Nat) : Prop := ∃ o q, 0 < o ∧ o < q ∧ q < p ∧ pw w W o ^^^ pw w W q = pw w W p ^^^ 1
/-- the first place that has a property, the bound if there is none -/
structure IsFirst (P : Nat → Prop) (n t : Nat) : Prop where
  le : t ≤ n
  ne : ∀ p, p < t → ¬ P p
  at_ : t < n → P t
theorem first_uniq {P : Nat → Prop} {n s t : Nat} (a : IsFirst P n s) (b : IsFirst P n t) : s = t := by
  rcases Nat.lt_trichotomy s t with h | h | h
  · exact absurd (a.at_ (by have := b.le; omega)) (b.ne s h)
  · exact h
  · exact absurd (b.at_ (by have := a.le; omega)) (a.ne t h)
def IsLongest (w W few L : Nat) : Prop := (few = 3 ∧ IsOrder w W L) ∨ (few = 4 ∧ ∃ d, IsOrder w W d ∧ IsFirst (Three w W) d L) ∨ (few = 5 ∧ ∃ d t, IsOrder w W d ∧ IsFirst (Three w W) d t ∧ IsFirst (Four w W) t L)
theorem longest_uniq {few s t : Nat} (a : IsLongest w W few s) (b : IsLongest w W few t) : s = t := by
  rcases a with ⟨e, a⟩ | ⟨e, d, a, a1⟩ | ⟨e, d, u, a, a1, a2⟩ <;> rcases b with ⟨f, b⟩ | ⟨f, d', b, b1⟩ | ⟨f, d', u', b, b1, b2⟩ <;> first | omega | skip
  · exact order_uniq a b
  · cases order_uniq a b; exact first_uniq a1 b1
  · cases order_uniq a b
    cases first_uniq a1 b1
    exact first_uniq a2 b2
include C
theorem back2 {a b k : Nat} (h : pw w W (a + k) ^^^ pw w W (b + k) = 0) : pw w W a ^^^ pw w W b = 0 := xor_eq0.mpr (pw_back C (xor_eq0.mp h))
theorem back3 {a b c k : Nat} (h : pw w W (a + k) ^^^ pw w W (b + k) ^^^ pw w W (c + k) = 0) : pw w W a ^^^ pw w W b ^^^ pw w W c = 0 := by
  induction k with
  | zero => exact h
  | succ k ih =>
    refine ih (sh_zero C (Nat.xor_lt_two_pow (Nat.xor_lt_two_pow (pw_lt C _) (pw_lt C _)) (pw_lt C _)) ?_)
    rw [sh_xor C (Nat.xor_lt_two_pow (pw_lt C _) (pw_lt C _)) (pw_lt C _), sh_xor C (pw_lt C _) (pw_lt C _), ← pw_succ, ← pw_succ, ← pw_succ]
    exact h
theorem back4 {a b c e k : Nat} (h : pw w W (a + k) ^^^ pw w W (b + k) ^^^ pw w W (c + k) ^^^ pw w W (e + k) = 0) : pw w W a ^^^ pw w W b ^^^ pw w W c ^^^ pw w W e = 0 := by
  induction k with
  | zero => exact h
  | succ k ih =>
    have x2 := fun i j => Nat.xor_lt_two_pow (pw_lt C i) (pw_lt C j)
    have x3 := fun i j l => Nat.xor_lt_two_pow (x2 i j) (pw_lt C l)
    refine ih (sh_zero C (Nat.xor_lt_two_pow (x3 _ _ _) (pw_lt C _)) ?_)
    rw [sh_xor C (x3 _ _ _) (pw_lt C _), sh_xor C (x2 _ _) (pw_lt C _), sh_xor C (pw_lt C _) (pw_lt C _), ← pw_succ, ← pw_succ, ← pw_succ, ← pw_succ]
    exact h
theorem order_ex : ∃ d, IsOrder w W d ∧ d < 2 ^ w := by
  obtain ⟨d, h1, h2, h3⟩ := pw_again C
  have key : ∀ n, 1 ≤ n → n ≤ d → pw w W n = 1 → ∃ e, IsOrder w W e ∧ e ≤ n := by
    intro n
    induction n using Nat.strongRecOn with
    | _ n ih =>
      intro a1 a2 a3
      by_cases c : ∃ i, 0 < i ∧ i < n ∧ pw w W i = 1
      · obtain ⟨i, c1, c2, c3⟩ := c
        obtain ⟨e, he, hl⟩ := ih i c2 c1 (by omega) c3
        exact ⟨e, he, by omega⟩
      · exact ⟨n, ⟨a1, a3, fun i c1 c2 c3 => c ⟨i, c1, c2, c3⟩⟩, Nat.le_refl _⟩
  obtain ⟨e, he, hl⟩ := key d h1 (Nat.le_refl _) h3
  exact ⟨e, he, by omega⟩
theorem no2 {d a b : Nat} (O : IsOrder w W d) (hab : a < b) (hb : b < d) : pw w W a ≠ pw w W b := fun h => by
  have := pw_back C (a := 0) (b := b - a) (k := a) (by rw [Nat.zero_add, show b - a + a = b by omega]; exact h)
  rw [pw_zero C] at this
  exact O.ne (b - a) (by omega) (by omega) this.symm
theorem pw_inj {d a b : Nat} (O : IsOrder w W d) (ha : a < d) (hb : b < d) (h : pw w W a = pw w W b) : a = b := by
  rcases Nat.lt_trichotomy a b with c | c | c
  · exact absurd h (no2 C O c hb)
  · exact c
  · exact absurd h.symm (no2 C O c ha)
theorem no3 {t a b c : Nat} (T : ∀ p, p < t → ¬ Three w W p) (hab : a < b) (hbc : b < c) (hc : c < t) : pw w W a ^^^ pw w W b ^^^ pw w W c ≠ 0 := fun h => by
  have := back3 C (a := 0) (b := b - a) (c := c - a) (k := a) (by rw [Nat.zero_add, show b - a + a = b by omega, show c - a + a = c by omega]; exact h)
  rw [pw_zero C] at this
  refine T (c - a) (by omega) ⟨b - a, by omega, by omega, ?_⟩
  refine xor_eq0.mp ?_
  rw [← this]
  ac_rfl
theorem no4 {t a b c e : Nat} (T : ∀ p, p < t → ¬ Four w W p) (hab : a < b) (hbc : b < c) (hce : c < e) (he : e < t) : pw w W a ^^^ pw w W b ^^^ pw w W c ^^^ pw w W e ≠ 0 := fun h => by
  have := back4 C (a := 0) (b := b - a) (c := c - a) (e := e - a) (k := a) (by rw [Nat.zero_add, show b - a + a = b by omega, show c - a + a = c by omega, show e - a + a = e by omega]; exact h)
  rw [pw_zero C] at this
  refine T (e - a) (by omega) ⟨b - a, c - a, by omega, by omega, by omega, ?_⟩
  refine xor_eq0.mp ?_
  rw [← this]
  ac_rfl
theorem no3' {t a b c : Nat} (T : ∀ p, p < t → ¬ Three w W p) (ha : a < t) (hbc : b < c) (hc : c < t) (h1 : a ≠ b) (h2 : a ≠ c) : pw w W a ≠ pw w W b ^^^ pw w W c := fun h => by
  have z := xor_eq0.mpr h
  rcases Nat.lt_or_ge a b with d | d
  · exact no3 C T d hbc hc (by rw [← z]; ac_rfl)
  · rcases Nat.lt_or_ge a c with e | e
    · exact no3 C T (a := b) (b := a) (c := c) (by omega) e hc (by rw [← z]; ac_rfl)
    · exact no3 C T (a := b) (b := c) (c := a) hbc (by omega) ha (by rw [← z]; ac_rfl)
theorem no4' {t a b c e : Nat} (T : ∀ p, p < t → ¬ Four w W p) (hab : a < b) (hb : b < t) (hce : c < e) (he : e < t) (h1 : a < c) (h2 : a ≠ e) (h3 : b ≠ c) (h4 : b ≠ e) : pw w W a ^^^ pw w W b ≠ pw w W c ^^^ pw w W e := fun h => by
  have z := xor_eq0.mpr h
  rcases Nat.lt_or_ge b c with d | d
  · exact no4 C T hab d hce he (by rw [← z]; ac_rfl)
  · rcases Nat.lt_or_ge b e with f | f
    · exact no4 C T (a := a) (b := c) (c := b) (e := e) h1 (by omega) f he (by rw [← z]; ac_rfl)
    · exact no4 C T (a := a) (b := c) (c := e) (e := b) h1 hce (by omega) hb (by rw [← z]; ac_rfl)
/-! ### what mends -/
omit C in
def valP (w W : Nat) (xs : List Nat) : Nat := xs.foldl (fun v x => v ^^^ pw w W x) 0
omit C in
/-- lists of at most two places, rising -/
def Small2 (N : Nat) (xs : List Nat) : Prop := xs = [] ∨ (∃ a, a < N ∧ xs = [a]) ∨ ∃ a b, a < b ∧ b < N ∧ xs = [a, b]
omit C in
def Small1 (N : Nat) (xs : List Nat) : Prop := xs = [] ∨ ∃ a, a < N ∧ xs = [a]
theorem one_uniq {L N : Nat} (O : IsLongest w W 3 L) (hN : N ≤ L) {xs ys : List Nat} (hx : Small1 N xs) (hy : Small1 N ys) (h : valP w W xs = valP w W ys) : xs = ys := by
  have O' : IsOrder w W L := by
    rcases O with ⟨_, h⟩ | ⟨e, _⟩ | ⟨e, _⟩
    · exact h
    · omega
    · omega
  rcases hx with rfl | ⟨a, ha, rfl⟩ <;> rcases hy with rfl | ⟨b, hb, rfl⟩
  · rfl
  · exact absurd (by simpa [valP] using h.symm) (pw_ne C b)
  · exact absurd (by simpa [valP] using h) (pw_ne C a)
  · rw [pw_inj C O' (a := a) (b := b) (by omega) (by omega) (by simpa [valP] using h)]
theorem two_uniq {L N : Nat} (O : IsLongest w W 5 L) (hN : N ≤ L) {xs ys : List Nat} (hx : Small2 N xs) (hy : Small2 N ys) (h : valP w W xs = valP w W ys) : xs = ys := by
  obtain ⟨d, t, hO, h3, h4⟩ : ∃ d t, IsOrder w W d ∧ IsFirst (Three w W) d t ∧ IsFirst (Four w W) t L := by
    rcases O with ⟨e, _⟩ | ⟨e, _⟩ | ⟨_, h⟩
    · omega
    · omega
    · exact h
  have l1 := h3.le
  have l2 := h4.le
  have T3 := h3.ne
  have T4 := h4.ne
  have inj := fun {a b : Nat} (ha : a < N) (hb : b < N) (h : pw w W a = pw w W b) => pw_inj C hO (a := a) (b := b) (by omega) (by omega) h
  have v0 : valP w W [] = 0 := rfl
  have v1 : ∀ a, valP w W [a] = pw w W a := fun a => by simp [valP]
  have v2 : ∀ a b, valP w W [a, b] = pw w W a ^^^ pw w W b := fun a b => by simp [valP]
  have m3 : ∀ {a b c : Nat}, a < N → b < c → c < N → pw w W a = pw w W b ^^^ pw w W c → False := fun {a b c} ha hbc hc e => by
    by_cases e1 : a = b
    · subst e1
      refine pw_ne C c ?_
      have : pw w W a ^^^ pw w W a = pw w W a ^^^ (pw w W a ^^^ pw w W c) := by rw [← e]
      rw [Nat.xor_self, ← Nat.xor_assoc, Nat.xor_self, Nat.zero_xor] at this
      exact this.symm
    · by_cases e2 : a = c
      · subst e2
        refine pw_ne C b ?_
        have : pw w W a ^^^ pw w W a = (pw w W b ^^^ pw w W a) ^^^ pw w W a := by rw [← e]
        rw [Nat.xor_self, Nat.xor_assoc, Nat.xor_self, Nat.xor_zero] at this
        exact this.symm
      · exact no3' C (t := t) T3 (by omega) hbc (by omega) e1 e2 e
  have m4 : ∀ {a b c e : Nat}, a < b → b < N → c < e → e < N → pw w W a ^^^ pw w W b = pw w W c ^^^ pw w W e → a < c → False := fun {a b c e} hab hb hce he z hac => by
    by_cases e2 : a = e
    · omega
    by_cases e3 : b = c
    · subst e3
      rw [Nat.xor_comm] at z
      have : pw w W a = pw w W e := by
        have : pw w W b ^^^ (pw w W b ^^^ pw w W a) = pw w W b ^^^ (pw w W b ^^^ pw w W e) := by rw [z]
        rw [← Nat.xor_assoc, ← Nat.xor_assoc, Nat.xor_self, Nat.zero_xor, Nat.zero_xor] at this
        exact this
      have := inj (by omega) he this
      omega
    by_cases e4 : b = e
    · subst e4
      have : pw w W a = pw w W c := by
        have : (pw w W a ^^^ pw w W b) ^^^ pw w W b = (pw w W c ^^^ pw w W b) ^^^ pw w W b := by rw [z]
        rw [Nat.xor_assoc, Nat.xor_assoc, Nat.xor_self, Nat.xor_zero, Nat.xor_zero] at this
        exact this
      have := inj (by omega) (by omega) this
      omega
    · exact no4' C (t := L) T4 hab (by omega) hce (by omega) hac e2 e3 e4 z
  rcases hx with rfl | ⟨a, ha, rfl⟩ | ⟨a, b, hab, hb, rfl⟩ <;> rcases hy with rfl | ⟨c, hc, rfl⟩ | ⟨c, e, hce, he, rfl⟩ <;> simp only [v0, v1, v2] at h
  · rfl
  · exact absurd h.symm (pw_ne C c)
  · have := inj (a := c) (b := e) (by omega) he (xor_eq0.mp h.symm)
    omega
  · exact absurd h (pw_ne C a)
  · rw [inj ha hc h]
  · exact (m3 ha hce he h).elim
  · have := inj (a := a) (b := b) (by omega) hb (xor_eq0.mp h)
    omega
  · exact (m3 hc hab hb h.symm).elim
  · rcases Nat.lt_trichotomy a c with q | q | q
    · exact (m4 hab hb hce he h q).elim
    · subst q
      have : pw w W b = pw w W e := by
        have : pw w W a ^^^ (pw w W a ^^^ pw w W b) = pw w W a ^^^ (pw w W a ^^^ pw w W e) := by rw [h]
        rw [← Nat.xor_assoc, ← Nat.xor_assoc, Nat.xor_self, Nat.zero_xor, Nat.zero_xor] at this
        exact this
      rw [inj hb he this]
    · exact (m4 hce he hab hb h.symm q).elim
end
end My

namespace My
/-! ### products -/
def prodN : Nat → Nat → Nat → Nat
  | 0, _, _ => 0
  | k + 1, a, b => 2 * prodN k a (b / 2) ^^^ (if b % 2 = 1 then a else 0)
/-- the product of two sums of powers -/
def prod (a b : Nat) : Nat := prodN (b.log2 + 1) a b
theorem prodN_zero (a : Nat) : ∀ k, prodN k a 0 = 0
  | 0 => rfl
  | k + 1 => by
    rw [prodN, Nat.zero_div, prodN_zero a k, if_neg (by decide)]
    rfl
theorem prodN_stab (a : Nat) : ∀ (k j b : Nat), b < 2 ^ k → b < 2 ^ j → prodN k a b = prodN j a b
  | 0, j, b, h, _ => by
    have e : b = 0 := by omega
    subst e
    rw [prodN_zero, prodN_zero]
  | k + 1, 0, b, _, h => by
    have e : b = 0 := by omega
    subst e
    rw [prodN_zero, prodN_zero]
  | k + 1, j + 1, b, h1, h2 => by
    rw [Nat.pow_succ] at h1 h2
    rw [prodN, prodN, prodN_stab a k j (b / 2) (by omega) (by omega)]
theorem prod_fuel {a k b : Nat} (h : b < 2 ^ k) : prod a b = prodN k a b := prodN_stab a _ _ _ Nat.lt_log2_self h
theorem prod_step (a b : Nat) : prod a b = 2 * prod a (b / 2) ^^^ (if b % 2 = 1 then a else 0) := by
  have h : b < 2 ^ (b.log2 + 1) := Nat.lt_log2_self
  rw [prod_fuel (k := b.log2) (b := b / 2) (by rw [Nat.pow_succ] at h; omega)]
  rfl
theorem prod_zero (a : Nat) : prod a 0 = 0 := prodN_zero a _
theorem prod_bit (a m c : Nat) (h : c < 2) : prod a (2 * m + c) = 2 * prod a m ^^^ (if c = 1 then a else 0) := by
  rw [prod_step, show (2 * m + c) / 2 = m by omega, show (2 * m + c) % 2 = c by omega]
theorem two_xor (x y : Nat) : 2 * (x ^^^ y) = 2 * x ^^^ 2 * y := by
  have := xor_bit x y 0 0 (by omega) (by omega)
  simp only [Nat.add_zero, Nat.xor_self] at this
  exact this.symm
theorem prod_xorl (a c : Nat) : ∀ b, prod (a ^^^ c) b = prod a b ^^^ prod c b := by
  intro b
  induction b using Nat.strongRecOn with
  | _ b ih =>
    by_cases h : b = 0
    · subst h
      rw [prod_zero, prod_zero, prod_zero]
      rfl
    · rw [prod_step, ih (b / 2) (by omega), prod_step a b, prod_step c b, two_xor]
      split <;> (try simp only [Nat.xor_zero]) <;> ac_rfl
theorem prod_dbl (a : Nat) : ∀ b, prod (2 * a) b = 2 * prod a b := by
  intro b
  induction b using Nat.strongRecOn with
  | _ b ih =>
    by_cases h : b = 0
    · subst h
      rw [prod_zero, prod_zero]
    · rw [prod_step, ih (b / 2) (by omega), prod_step a b, two_xor]
      split <;> simp
theorem prod_one : ∀ b, prod 1 b = b := by
  intro b
  induction b using Nat.strongRecOn with
  | _ b ih =>
    by_cases h : b = 0
    · subst h
      exact prod_zero 1
    · rw [prod_step, ih (b / 2) (by omega)]
      have e := xor_bit (b / 2) 0 0 (b % 2) (by omega) (by omega)
      rw [Nat.add_zero, Nat.mul_zero, Nat.zero_add, Nat.xor_zero, Nat.zero_xor] at e
      have c : b % 2 = 0 ∨ b % 2 = 1 := by omega
      rcases c with c | c
      · rw [c] at e ⊢
        rw [if_neg (by decide), Nat.xor_zero]
        omega
      · rw [c] at e ⊢
        rw [if_pos rfl, e]
        omega
theorem prod_zerol : ∀ b, prod 0 b = 0 := by
  intro b
  induction b using Nat.strongRecOn with
  | _ b ih =>
    by_cases h : b = 0
    · subst h
      exact prod_zero 0
    · rw [prod_step, ih (b / 2) (by omega)]
      split <;> rfl
theorem prod_comm : ∀ a b, prod a b = prod b a := by
  intro a
  induction a using Nat.strongRecOn with
  | _ a ih =>
    intro b
    by_cases h : a = 0
    · subst h
      rw [prod_zero, prod_zerol]
    · have e := xor_bit (a / 2) 0 0 (a % 2) (by omega) (by omega)
      rw [Nat.add_zero, Nat.mul_zero, Nat.zero_add, Nat.xor_zero, Nat.zero_xor] at e
      have ea : a = 2 * (a / 2) ^^^ a % 2 := by rw [e]; omega
      rw [prod_step b a]
      conv => lhs; rw [ea]
      rw [prod_xorl, prod_dbl, ih (a / 2) (by omega)]
      congr 1
      have c : a % 2 = 0 ∨ a % 2 = 1 := by omega
      rcases c with c | c
      · rw [c, if_neg (by decide), prod_zerol]
      · rw [c, if_pos rfl, prod_one]
theorem prod_lt {a b k j : Nat} (ha : a < 2 ^ k) (hb : b < 2 ^ j) : prod a b < 2 ^ (k + j) := by
  induction j generalizing b with
  | zero =>
    have : b = 0 := by omega
    subst this
    rw [prod_zero]
    exact Nat.pow_pos (by omega)
  | succ j ih =>
    rw [Nat.pow_succ] at hb
    rw [prod_step]
    have h1 := ih (b := b / 2) (by omega)
    have e : k + (j + 1) = (k + j) + 1 := by omega
    have h2 : 2 * prod a (b / 2) < 2 ^ (k + (j + 1)) := by rw [e, Nat.pow_succ]; omega
    have h3 : a < 2 ^ (k + (j + 1)) := Nat.lt_of_lt_of_le ha (Nat.pow_le_pow_right (by decide) (by omega))
    refine Nat.xor_lt_two_pow h2 ?_
    split
    · exact h3
    · exact Nat.pow_pos (by omega)
section
variable {w W : Nat}
/-- the rest of a product, by the first one's rest -/
def mulN (w W : Nat) : Nat → Nat → Nat → Nat
  | 0, _, _ => 0
  | k + 1, a, b => sh w W (mulN w W k a (b / 2)) ^^^ (if b % 2 = 1 then a else 0)
def mulR (w W a b : Nat) : Nat := rem w W (prod a b)
def shn (w W : Nat) : Nat → Nat → Nat
  | 0, a => a
  | k + 1, a => sh w W (shn w W k a)
variable (C : Ck w W)
include C
theorem mulR_step (a b : Nat) (ha : a < 2 ^ w) : mulR w W a b = sh w W (mulR w W a (b / 2)) ^^^ (if b % 2 = 1 then a else 0) := by
  unfold mulR
  rw [prod_step, rem_xor C, rem_dbl]
  congr 1
  split
  · exact rem_small C a ha
  · exact rem_zero
theorem rem_shlN (n k : Nat) : rem w W (n * 2 ^ k) = shn w W k (rem w W n) := by
  induction k with
  | zero => rw [Nat.pow_zero, Nat.mul_one]; rfl
  | succ k ih =>
    rw [Nat.pow_succ, ← Nat.mul_assoc, Nat.mul_comm, rem_dbl, ih]
    rfl
theorem mulR_xor (a b c : Nat) : mulR w W a (b ^^^ c) = mulR w W a b ^^^ mulR w W a c := by
  unfold mulR
  rw [prod_comm a, prod_xorl, rem_xor C, prod_comm b, prod_comm c]
theorem mulR_lt (a b : Nat) : mulR w W a b < 2 ^ w := rem_lt C _
/-- a product's rest by the rest of the one -/
theorem mulR_rem (a b : Nat) : rem w W (prod (rem w W a) b) = rem w W (prod a b) := by
  induction b using Nat.strongRecOn with
  | _ b ih =>
    by_cases h : b = 0
    · subst h
      rw [prod_zero, prod_zero]
    · rw [prod_step, prod_step a b, rem_xor C, rem_xor C, rem_dbl, rem_dbl, ih (b / 2) (by omega)]
      congr 1
      split
      · exact rem_small C _ (rem_lt C _)
      · rfl
theorem mulR_W (a : Nat) : mulR w W a W = 0 := by
  unfold mulR
  rw [prod_comm, ← mulR_rem C, rem_self C, prod_zerol]
  exact rem_zero
theorem mulR_remr (a b : Nat) : mulR w W a (rem w W b) = mulR w W a b := by
  unfold mulR
  rw [prod_comm, mulR_rem C, prod_comm]
theorem mulR_pow (a m : Nat) (ha : a < 2 ^ w) : mulR w W a (2 ^ m) = shn w W m a := by
  unfold mulR
  have e : prod a (2 ^ m) = a * 2 ^ m := by
    clear ha
    induction m with
    | zero => rw [prod_comm, Nat.pow_zero, prod_one, Nat.mul_one]
    | succ m ih =>
      rw [prod_step, Nat.pow_succ, Nat.mul_div_cancel _ (by decide), Nat.mul_mod_left, if_neg (by decide), Nat.xor_zero, ih]
      rw [Nat.mul_comm 2, Nat.mul_assoc]
  rw [e, rem_shlN C, rem_small C a ha]
theorem mulR_pw (a m : Nat) (ha : a < 2 ^ w) : mulR w W a (pw w W m) = shn w W m a := by
  unfold pw
  rw [mulR_remr C, mulR_pow C a m ha]
omit C in
theorem shn_pw (k m : Nat) : shn w W k (pw w W m) = pw w W (m + k) := by
  induction k with
  | zero => rfl
  | succ k ih =>
    show sh w W (shn w W k (pw w W m)) = _
    rw [ih, ← pw_succ]
    rfl
theorem pw_mul (j k : Nat) : mulR w W (pw w W j) (pw w W k) = pw w W (j + k) := by
  rw [mulR_pw C _ _ (pw_lt C j), shn_pw]
end
end My

namespace My
section
variable {w W : Nat} (C : Ck w W)
theorem first_ex (P : Nat → Prop) (n : Nat) : ∃ t, IsFirst P n t := by
  induction n with
  | zero => exact ⟨0, Nat.le_refl _, fun p h => absurd h (by omega), fun h => absurd h (by omega)⟩
  | succ n ih =>
    obtain ⟨t, h1, h2, h3⟩ := ih
    by_cases c : t < n
    · exact ⟨t, by omega, h2, fun _ => h3 c⟩
    · have e : t = n := by omega
      subst e
      by_cases d : P t
      · exact ⟨t, by omega, h2, fun _ => d⟩
      · exact ⟨t + 1, Nat.le_refl _, fun p hp => by
          by_cases z : p < t
          · exact h2 p z
          · rw [show p = t by omega]; exact d, fun h => absurd h (by omega)⟩
/-- the order, the first three, the first four -/
def Bounds (w W d t f : Nat) : Prop := IsOrder w W d ∧ IsFirst (Three w W) d t ∧ IsFirst (Four w W) t f
theorem bounds_ex (C : Ck w W) : ∃ d t f, Bounds w W d t f := by
  obtain ⟨d, hd, _⟩ := order_ex C
  obtain ⟨t, ht⟩ := first_ex (Three w W) d
  obtain ⟨f, hf⟩ := first_ex (Four w W) t
  exact ⟨d, t, f, hd, ht, hf⟩
theorem bounds_longest {d t f few L : Nat} (h : Bounds w W d t f) (hL : IsLongest w W few L) : (few = 3 ∧ L = d) ∨ (few = 4 ∧ L = t) ∨ (few = 5 ∧ L = f) := by
  rcases hL with ⟨e, a⟩ | ⟨e, d', a, a1⟩ | ⟨e, d', t', a, a1, a2⟩
  · exact .inl ⟨e, order_uniq a h.1⟩
  · cases order_uniq a h.1
    exact .inr (.inl ⟨e, first_uniq a1 h.2.1⟩)
  · cases order_uniq a h.1
    cases first_uniq a1 h.2.1
    exact .inr (.inr ⟨e, first_uniq a2 h.2.2⟩)
def distF (d t f n : Nat) : Option Nat := if d < n then some 2 else if t < n then some 3 else if f < n then some 4 else none
include C
theorem pw_add (k : Nat) {i j : Nat} (h : pw w W i = pw w W j) : pw w W (i + k) = pw w W (j + k) := by
  rw [← shn_pw, ← shn_pw, h]
theorem pw_mod {d : Nat} (O : IsOrder w W d) (n : Nat) : pw w W n = pw w W (n % d) := by
  induction n using Nat.strongRecOn with
  | _ n ih =>
    by_cases h : n < d
    · rw [Nat.mod_eq_of_lt h]
    · have hp := O.pos
      have e := pw_add C (n - d) (i := d) (j := 0) (by rw [O.at_, pw_zero C])
      rw [show d + (n - d) = n by omega, Nat.zero_add] at e
      rw [e, ih (n - d) (by omega)]
      congr 1
      exact (Nat.mod_eq_sub_mod (by omega)).symm
theorem pw_same {d : Nat} (O : IsOrder w W d) (a k : Nat) : pw w W a = pw w W (a + k) ↔ k % d = 0 := by
  have hp := O.pos
  constructor
  · intro h
    have := pw_back C (a := 0) (b := k) (k := a) (by rw [Nat.zero_add, Nat.add_comm k a]; exact h)
    rw [pw_zero C, pw_mod C O k] at this
    by_cases z : k % d = 0
    · exact z
    · exact absurd this.symm (O.ne _ (by omega) (Nat.mod_lt _ (by omega)))
  · intro h
    have : pw w W 0 = pw w W k := by rw [pw_mod C O k, h]
    have := pw_add C a this
    rw [Nat.zero_add, Nat.add_comm] at this
    exact this
/-! ### the first ones -/
omit C in
structure First3 (w W n o q : Nat) : Prop where
  h0 : 0 < o
  h1 : o < q
  h2 : q < n
  at_ : pw w W q = pw w W o ^^^ 1
  ne : ∀ o', 0 < o' → o' < o → ¬ ∃ q', o' < q' ∧ q' < n ∧ pw w W q' = pw w W o' ^^^ 1
omit C in
structure First4 (w W n o q l : Nat) : Prop where
  h0 : 0 < o
  h1 : o < q
  h2 : q < l
  h3 : l < n
  at_ : pw w W l = pw w W o ^^^ pw w W q ^^^ 1
  ne : ∀ o' q', 0 < o' → o' < q' → (o' < o ∨ (o' = o ∧ q' < q)) → ¬ ∃ l', q' < l' ∧ l' < n ∧ pw w W l' = pw w W o' ^^^ pw w W q' ^^^ 1
theorem first3_uniq {d n o q o' q' : Nat} (O : IsOrder w W d) (hn : n ≤ d) (a : First3 w W n o q) (b : First3 w W n o' q') : o = o' ∧ q = q' := by
  have e : o = o' := by
    rcases Nat.lt_trichotomy o o' with h | h | h
    · exact absurd ⟨q, a.h1, a.h2, a.at_⟩ (b.ne o a.h0 h)
    · exact h
    · exact absurd ⟨q', b.h1, b.h2, b.at_⟩ (a.ne o' b.h0 h)
  subst e
  have := a.h2
  have := b.h2
  exact ⟨rfl, pw_inj C O (by omega) (by omega) (by rw [a.at_, b.at_])⟩
theorem first4_uniq {d n o q l o' q' l' : Nat} (O : IsOrder w W d) (hn : n ≤ d) (a : First4 w W n o q l) (b : First4 w W n o' q' l') : o = o' ∧ q = q' ∧ l = l' := by
  have e : o = o' ∧ q = q' := by
    rcases Nat.lt_trichotomy o o' with h | h | h
    · exact absurd ⟨l, a.h2, a.h3, a.at_⟩ (b.ne o q a.h0 a.h1 (.inl h))
    · rcases Nat.lt_trichotomy q q' with k | k | k
      · exact absurd ⟨l, a.h2, a.h3, a.at_⟩ (b.ne o q a.h0 a.h1 (.inr ⟨h, k⟩))
      · exact ⟨h, k⟩
      · exact absurd ⟨l', b.h2, b.h3, b.at_⟩ (a.ne o' q' b.h0 b.h1 (.inr ⟨h.symm, k⟩))
    · exact absurd ⟨l', b.h2, b.h3, b.at_⟩ (a.ne o' q' b.h0 b.h1 (.inl h))
  obtain ⟨rfl, rfl⟩ := e
  have := a.h3
  have := b.h3
  exact ⟨rfl, rfl, pw_inj C O (by omega) (by omega) (by rw [a.at_, b.at_])⟩
omit C in
theorem three_some {d t f n : Nat} (h : Bounds w W d t f) (ht : t < n) (hn : n ≤ d) : ∃ o q, 0 < o ∧ o < q ∧ q < n ∧ pw w W q = pw w W o ^^^ 1 := by
  obtain ⟨q, h1, h2, h3⟩ := h.2.1.at_ (by omega)
  refine ⟨q, t, h1, h2, ht, ?_⟩
  rw [h3, Nat.xor_assoc, Nat.xor_self, Nat.xor_zero]
omit C in
theorem four_some {d t f n : Nat} (h : Bounds w W d t f) (hf : f < n) (hn : n ≤ t) : ∃ o q l, 0 < o ∧ o < q ∧ q < l ∧ l < n ∧ pw w W l = pw w W o ^^^ pw w W q ^^^ 1 := by
  obtain ⟨o, q, h1, h2, h3, h4⟩ := h.2.2.at_ (by omega)
  refine ⟨o, q, f, h1, h2, h3, hf, ?_⟩
  rw [h4, Nat.xor_assoc, Nat.xor_self, Nat.xor_zero]
omit C in
/-- what is told of the first unseen ones -/
def LeastUn (w W d t f n : Nat) : Option (List Nat) → Prop
  | none => distF d t f n = none
  | some xs => (distF d t f n = some 2 ∧ xs = [0, d]) ∨ (distF d t f n = some 3 ∧ ∃ o q, First3 w W n o q ∧ xs = [0, o, q]) ∨ (distF d t f n = some 4 ∧ ∃ o q l, First4 w W n o q l ∧ xs = [0, o, q, l])
omit C in
theorem dist_cases {d t f n : Nat} : (distF d t f n = some 2 ∧ d < n) ∨ (distF d t f n = some 3 ∧ n ≤ d ∧ t < n) ∨ (distF d t f n = some 4 ∧ n ≤ d ∧ n ≤ t ∧ f < n) ∨ (distF d t f n = none ∧ n ≤ d ∧ n ≤ t ∧ n ≤ f) := by
  unfold distF
  by_cases a : d < n
  · exact .inl ⟨if_pos a, a⟩
  · by_cases b : t < n
    · exact .inr (.inl ⟨by rw [if_neg a, if_pos b], by omega, b⟩)
    · by_cases c : f < n
      · exact .inr (.inr (.inl ⟨by rw [if_neg a, if_neg b, if_pos c], by omega, by omega, c⟩))
      · exact .inr (.inr (.inr ⟨by rw [if_neg a, if_neg b, if_neg c], by omega, by omega, by omega⟩))
theorem least_uniq {d t f n : Nat} (O : IsOrder w W d) {x y : Option (List Nat)} (a : LeastUn w W d t f n x) (b : LeastUn w W d t f n y) : x = y := by
  cases x with
  | none =>
    cases y with
    | none => rfl
    | some ys =>
      have a' : distF d t f n = none := a
      rcases b with ⟨b, _⟩ | ⟨b, _⟩ | ⟨b, _⟩ <;> rw [a'] at b <;> cases b
  | some xs =>
    cases y with
    | none =>
      have b' : distF d t f n = none := b
      rcases a with ⟨a, _⟩ | ⟨a, _⟩ | ⟨a, _⟩ <;> rw [b'] at a <;> cases a
    | some ys =>
      rcases a with ⟨a, rfl⟩ | ⟨a, o, q, h, rfl⟩ | ⟨a, o, q, l, h, rfl⟩ <;> rcases b with ⟨b, rfl⟩ | ⟨b, o', q', k, rfl⟩ | ⟨b, o', q', l', k, rfl⟩ <;> rw [a] at b <;> first | (cases b; done) | skip
      · have hn : n ≤ d := by rcases dist_cases (d := d) (t := t) (f := f) (n := n) with z | z | z | z <;> first | (rw [a] at z; cases z.1; done) | exact z.2.1
        obtain ⟨rfl, rfl⟩ := first3_uniq C O hn h k
        rfl
      · have hn : n ≤ d := by rcases dist_cases (d := d) (t := t) (f := f) (n := n) with z | z | z | z <;> first | (rw [a] at z; cases z.1; done) | exact z.2.1
        obtain ⟨rfl, rfl, rfl⟩ := first4_uniq C O hn h k
        rfl
/-- it is unseen, and rises -/
theorem least_unseen_zero {d t f n : Nat} (B : Bounds w W d t f) {xs : List Nat} (h : LeastUn w W d t f n (some xs)) : valP w W xs = 0 ∧ xs.Pairwise (· < ·) ∧ xs.length ≤ 4 ∧ ∀ x ∈ xs, x ≤ d := by
  have hp := B.1.pos
  have hc := dist_cases (d := d) (t := t) (f := f) (n := n)
  rcases h with ⟨a, rfl⟩ | ⟨a, o, q, h, rfl⟩ | ⟨a, o, q, l, h, rfl⟩
  · refine ⟨?_, by simp; omega, by simp, fun x hx => ?_⟩
    · simp [valP, pw_zero C, B.1.at_]
    · simp at hx; omega
  · have hn : n ≤ d := by rcases hc with z | z | z | z <;> first | (rw [a] at z; cases z.1; done) | exact z.2.1
    have h0 := h.h0
    have h1 := h.h1
    have h2 := h.h2
    refine ⟨?_, by simp; omega, by simp, fun x hx => ?_⟩
    · simp only [valP, List.foldl_cons, List.foldl_nil, pw_zero C, h.at_, Nat.zero_xor]
      rw [show (1 ^^^ pw w W o ^^^ (pw w W o ^^^ 1)) = (1 ^^^ 1) ^^^ (pw w W o ^^^ pw w W o) by ac_rfl, Nat.xor_self, Nat.xor_self]
      rfl
    · simp at hx; omega
  · have hn : n ≤ d := by rcases hc with z | z | z | z <;> first | (rw [a] at z; cases z.1; done) | exact z.2.1
    have h0 := h.h0
    have h1 := h.h1
    have h2 := h.h2
    have h3 := h.h3
    refine ⟨?_, by simp; omega, by simp, fun x hx => ?_⟩
    · simp only [valP, List.foldl_cons, List.foldl_nil, pw_zero C, h.at_, Nat.zero_xor]
      rw [show (1 ^^^ pw w W o ^^^ pw w W q ^^^ (pw w W o ^^^ pw w W q ^^^ 1)) = (1 ^^^ 1) ^^^ (pw w W o ^^^ pw w W o) ^^^ (pw w W q ^^^ pw w W q) by ac_rfl]
      simp only [Nat.xor_self]
    · simp at hx; omega
end
end My

namespace My
open PySem PySem.Spec PyProof.Rows L2 Pre
/-- the places of the ones of a number, of its first k bits -/
def onesN (n k : Nat) : List Nat := (List.range k).filter fun i => n.testBit i
end My

namespace My
section
variable {w W : Nat} (C : Ck w W)
/-! ### sets of places as numbers -/
theorem ones_succ (n k : Nat) : onesN n (k + 1) = onesN n k ++ (if n.testBit k = true then [k] else []) := by
  unfold onesN
  rw [List.range_succ, List.filter_append]
  congr 1
  by_cases c : n.testBit k = true
  · rw [if_pos c, List.filter_cons_of_pos c, List.filter_nil]
  · rw [if_neg c, List.filter_cons_of_neg c, List.filter_nil]
theorem ones_mem {n k i : Nat} : i ∈ onesN n k ↔ i < k ∧ n.testBit i = true := by
  unfold onesN
  rw [List.mem_filter, List.mem_range]
theorem ones_more {n k : Nat} (h : n < 2 ^ k) : ∀ {j : Nat}, k ≤ j → onesN n j = onesN n k := by
  intro j
  induction j with
  | zero => intro l; rw [show k = 0 by omega]
  | succ j ih =>
    intro l
    by_cases e : k = j + 1
    · rw [e]
    · rw [ones_succ, ih (by omega), if_neg (by rw [Nat.testBit_lt_two_pow (Nat.lt_of_lt_of_le h (Nat.pow_le_pow_right (by decide) (by omega)))]; decide), List.append_nil]
theorem ones_rise (n k : Nat) : (onesN n k).Pairwise (· < ·) := List.Pairwise.filter _ List.pairwise_lt_range
theorem rising_eq : ∀ {xs ys : List Nat}, xs.Pairwise (· < ·) → ys.Pairwise (· < ·) → (∀ i, i ∈ xs ↔ i ∈ ys) → xs = ys
  | [], [], _, _, _ => rfl
  | [], y :: ys, _, _, h => absurd ((h y).mpr List.mem_cons_self) (by simp)
  | x :: xs, [], _, _, h => absurd ((h x).mp List.mem_cons_self) (by simp)
  | x :: xs, y :: ys, hx, hy, h => by
    rw [List.pairwise_cons] at hx hy
    have e : x = y := by
      rcases List.mem_cons.mp ((h x).mp List.mem_cons_self) with a | a
      · exact a
      · rcases List.mem_cons.mp ((h y).mpr List.mem_cons_self) with b | b
        · exact b.symm
        · have := hy.1 x a
          have := hx.1 y b
          omega
    subst e
    rw [rising_eq hx.2 hy.2 fun i => ⟨fun z => by
      rcases List.mem_cons.mp ((h i).mp (List.mem_cons_of_mem _ z)) with a | a
      · have := hx.1 i z; omega
      · exact a, fun z => by
      rcases List.mem_cons.mp ((h i).mpr (List.mem_cons_of_mem _ z)) with a | a
      · have := hy.1 i z; omega
      · exact a⟩]
def numS (ts : List Nat) : Nat := ts.foldr (fun t n => 2 ^ t ||| n) 0
theorem numS_bit (i : Nat) : ∀ ts : List Nat, (numS ts).testBit i = true ↔ i ∈ ts
  | [] => by simp [numS]
  | t :: ts => by
    show (2 ^ t ||| numS ts).testBit i = true ↔ _
    rw [Nat.testBit_or, Bool.or_eq_true, numS_bit i ts, Nat.testBit_two_pow, decide_eq_true_eq, List.mem_cons]
    constructor
    · rintro (h | h)
      · exact .inl h.symm
      · exact .inr h
    · rintro (h | h)
      · exact .inl h.symm
      · exact .inr h
theorem numS_lt {m : Nat} : ∀ {ts : List Nat}, (∀ t ∈ ts, t < m) → numS ts < 2 ^ m
  | [], _ => Nat.two_pow_pos m
  | t :: ts, h => Nat.or_lt_two_pow (Nat.pow_lt_pow_right (by decide) (h t List.mem_cons_self)) (numS_lt fun x hx => h x (List.mem_cons_of_mem _ hx))
theorem ones_num {ts : List Nat} {m : Nat} (h : ts.Pairwise (· < ·)) (b : ∀ t ∈ ts, t < m) : onesN (numS ts) m = ts :=
  rising_eq (ones_rise _ _) h fun i => by
    rw [ones_mem, numS_bit]
    exact ⟨fun z => z.2, fun z => ⟨b i z, z⟩⟩
theorem ones_ne {n m : Nat} (h0 : 0 < n) (h : n < 2 ^ m) : onesN n m ≠ [] := fun e => by
  have : n = 0 := Nat.eq_of_testBit_eq fun i => by
    rw [Nat.zero_testBit]
    by_cases l : i < m
    · cases c : n.testBit i with
      | false => rfl
      | true =>
        have := ones_mem.mpr ⟨l, c⟩
        rw [e] at this
        simp at this
    · exact Nat.testBit_lt_two_pow (Nat.lt_of_lt_of_le h (Nat.pow_le_pow_right (by decide) (by omega)))
  omega
theorem mod_succ (n k : Nat) : n % 2 ^ (k + 1) = (n % 2 ^ k) ^^^ (if n.testBit k = true then 2 ^ k else 0) := by
  apply Nat.eq_of_testBit_eq
  intro i
  rw [Nat.testBit_xor, Nat.testBit_mod_two_pow, Nat.testBit_mod_two_pow]
  by_cases c : n.testBit k = true
  · rw [if_pos c, Nat.testBit_two_pow]
    rcases Nat.lt_trichotomy i k with h | h | h
    · simp [h, show i < k + 1 by omega, show ¬ k = i by omega]
    · subst h; simp [c]
    · simp [show ¬ i < k by omega, show ¬ i < k + 1 by omega, show ¬ k = i by omega]
  · rw [if_neg c, Nat.zero_testBit]
    rcases Nat.lt_trichotomy i k with h | h | h
    · simp [h, show i < k + 1 by omega]
    · subst h; simp at c; simp [c]
    · simp [show ¬ i < k by omega, show ¬ i < k + 1 by omega]
theorem valP_snoc (xs : List Nat) (k : Nat) : valP w W (xs ++ [k]) = valP w W xs ^^^ pw w W k := by
  unfold valP
  rw [List.foldl_append]
  rfl
include C
theorem valP_moved (n s : Nat) : ∀ k, valP w W ((onesN n k).map (· + s)) = rem w W ((n % 2 ^ k) * 2 ^ s)
  | 0 => by
    rw [Nat.pow_zero, Nat.mod_one, Nat.zero_mul, rem_zero]
    rfl
  | k + 1 => by
    rw [ones_succ, mod_succ]
    by_cases c : n.testBit k = true
    · rw [if_pos c, if_pos c, List.map_append, List.map_cons, List.map_nil, valP_snoc, valP_moved n s k, ← Nat.shiftLeft_eq (_ ^^^ _), Nat.shiftLeft_xor_distrib, Nat.shiftLeft_eq, Nat.shiftLeft_eq, rem_xor C, ← Nat.pow_add]
      rfl
    · rw [if_neg c, if_neg c, List.append_nil, Nat.xor_zero, valP_moved n s k]
theorem valP_ones {n k : Nat} (h : n < 2 ^ k) : valP w W (onesN n k) = rem w W n := by
  have e := valP_moved C n 0 k
  rw [Nat.pow_zero, Nat.mul_one, Nat.mod_eq_of_lt h] at e
  rw [← e]
  congr 1
  exact (List.map_id' _).symm
theorem valP_far {n k : Nat} (s : Nat) (h : n < 2 ^ k) (z : rem w W n = 0) : valP w W ((onesN n k).map (· + s)) = 0 := by
  rw [valP_moved C, Nat.mod_eq_of_lt h, ← Nat.shiftLeft_eq]
  exact rem_shl C n s z
/-! ### the least unseen ones -/
theorem un_len {d t f m : Nat} (B : Bounds w W d t f) : ∀ {xs : List Nat}, xs.Pairwise (· < ·) → (∀ x ∈ xs, x < m) → valP w W xs = 0 → xs ≠ [] →
    2 ≤ xs.length ∧ (m ≤ d → 3 ≤ xs.length) ∧ (m ≤ d → m ≤ t → 4 ≤ xs.length) ∧ (m ≤ d → m ≤ t → m ≤ f → 5 ≤ xs.length)
  | [], _, _, _, h => absurd rfl h
  | [a], _, _, h, _ => absurd (by rw [← h]; show _ = 0 ^^^ pw w W a; rw [Nat.zero_xor]) (pw_ne C a)
  | [a, b], hp, hm, h, _ => by
    have hb := hm b (by simp)
    have hab : a < b := by simp at hp; exact hp
    have e : pw w W a = pw w W b := by
      have : 0 ^^^ pw w W a ^^^ pw w W b = 0 := h
      rw [Nat.zero_xor] at this
      exact xor_eq0.mp this
    have no : ¬ m ≤ d := fun l => no2 C B.1 hab (by omega) e
    exact ⟨Nat.le_refl _, fun z => absurd z no, fun z => absurd z no, fun z => absurd z no⟩
  | [a, b, c], hp, hm, h, _ => by
    have hc := hm c (by simp)
    have hab : a < b ∧ b < c := by simp at hp; omega
    have e : pw w W a ^^^ pw w W b ^^^ pw w W c = 0 := by
      have : 0 ^^^ pw w W a ^^^ pw w W b ^^^ pw w W c = 0 := h
      rw [Nat.zero_xor] at this
      exact this
    have no : ¬ m ≤ t := fun l => no3 C B.2.1.ne hab.1 hab.2 (by omega) e
    exact ⟨by simp, fun _ => Nat.le_refl _, fun _ z => absurd z no, fun _ z => absurd z no⟩
  | [a, b, c, e], hp, hm, h, _ => by
    have he := hm e (by simp)
    have hab : a < b ∧ b < c ∧ c < e := by simp at hp; omega
    have z : pw w W a ^^^ pw w W b ^^^ pw w W c ^^^ pw w W e = 0 := by
      have : 0 ^^^ pw w W a ^^^ pw w W b ^^^ pw w W c ^^^ pw w W e = 0 := h
      rw [Nat.zero_xor] at this
      exact this
    have no : ¬ m ≤ f := fun l => no4 C B.2.2.ne hab.1 hab.2.1 hab.2.2 (by omega) z
    exact ⟨by simp, fun _ => by simp, fun _ _ => Nat.le_refl _, fun _ _ y => absurd y no⟩
  | a :: b :: c :: e :: g :: r, _, _, _, _ => by simp only [List.length_cons]; omega
theorem least_len {d t f m n : Nat} (B : Bounds w W d t f) (n0 : 0 < n) (nm : n < 2 ^ m) (z : rem w W n = 0) :
    (distF d t f m = none → 5 ≤ (onesN n m).length) ∧ ∀ k, distF d t f m = some k → k ≤ (onesN n m).length := by
  have h := un_len C B (ones_rise n m) (fun x hx => (ones_mem.mp hx).1) (by rw [valP_ones C nm, z]) (ones_ne n0 nm)
  refine ⟨fun e => ?_, fun k e => ?_⟩ <;> rcases dist_cases (d := d) (t := t) (f := f) (n := m) with y | y | y | y <;> rw [e] at y
  · cases y.1
  · cases y.1
  · cases y.1
  · exact h.2.2.2 y.2.1 y.2.2.1 y.2.2.2
  · cases y.1; exact h.1
  · cases y.1; exact h.2.1 y.2.1
  · cases y.1; exact h.2.2.1 y.2.1 y.2.2.1
  · cases y.1
omit C in
theorem least_lt {d t f n : Nat} (h0 : 1 ≤ d) {xs : List Nat} (h : LeastUn w W d t f n (some xs)) : ∀ x ∈ xs, x < n := by
  rcases h with ⟨a, rfl⟩ | ⟨a, o, q, h, rfl⟩ | ⟨a, o, q, l, h, rfl⟩
  · rcases dist_cases (d := d) (t := t) (f := f) (n := n) with y | y | y | y <;> first | (rw [a] at y; cases y.1; done) | skip
    intro x hx
    simp at hx
    omega
  · have := h.h1
    have := h.h2
    intro x hx
    simp at hx
    omega
  · have := h.h1
    have := h.h2
    have := h.h3
    intro x hx
    simp at hx
    omega
omit C in
theorem least_size {d t f n : Nat} {xs : List Nat} (h : LeastUn w W d t f n (some xs)) : distF d t f n = some xs.length := by
  rcases h with ⟨a, rfl⟩ | ⟨a, o, q, h, rfl⟩ | ⟨a, o, q, l, h, rfl⟩ <;> exact a
omit C in
theorem least_ex {d t f n : Nat} (B : Bounds w W d t f) : ∃ r, LeastUn w W d t f n r := by
  rcases dist_cases (d := d) (t := t) (f := f) (n := n) with y | y | y | y
  · exact ⟨some [0, d], .inl ⟨y.1, rfl⟩⟩
  · obtain ⟨o, q, h1, h2, h3, h4⟩ := three_some B y.2.2 y.2.1
    obtain ⟨x, hx⟩ := first_ex (fun o => 0 < o ∧ ∃ q, o < q ∧ q < n ∧ pw w W q = pw w W o ^^^ 1) n
    have hxn : x < n := by
      by_cases c : x < n
      · exact c
      · exact absurd ⟨h1, q, h2, h3, h4⟩ (hx.ne o (by omega))
    obtain ⟨k0, q', k1, k2, k3⟩ := hx.at_ hxn
    exact ⟨some [0, x, q'], .inr (.inl ⟨y.1, x, q', ⟨k0, k1, k2, k3, fun o' p0 p1 z => hx.ne o' p1 ⟨p0, z⟩⟩, rfl⟩)⟩
  · obtain ⟨o, q, l, h1, h2, h3, h4, h5⟩ := four_some B y.2.2.2 y.2.2.1
    obtain ⟨x, hx⟩ := first_ex (fun o => 0 < o ∧ ∃ q, o < q ∧ ∃ l, q < l ∧ l < n ∧ pw w W l = pw w W o ^^^ pw w W q ^^^ 1) n
    have hxn : x < n := by
      by_cases c : x < n
      · exact c
      · exact absurd ⟨h1, q, h2, l, h3, h4, h5⟩ (hx.ne o (by omega))
    obtain ⟨k0, q', k1, l', k2, k3, k4⟩ := hx.at_ hxn
    obtain ⟨u, hu⟩ := first_ex (fun q => x < q ∧ ∃ l, q < l ∧ l < n ∧ pw w W l = pw w W x ^^^ pw w W q ^^^ 1) n
    have hun : u < n := by
      by_cases c : u < n
      · exact c
      · exact absurd ⟨k1, l', k2, k3, k4⟩ (hu.ne q' (by omega))
    obtain ⟨j0, l2, j1, j2, j3⟩ := hu.at_ hun
    refine ⟨some [0, x, u, l2], .inr (.inr ⟨y.1, x, u, l2, ⟨k0, j0, j1, j2, j3, fun o' q' p0 p1 p2 z => ?_⟩, rfl⟩)⟩
    rcases p2 with p2 | ⟨rfl, p2⟩
    · exact hx.ne o' p2 ⟨p0, q', p1, z⟩
    · exact hu.ne q' p2 ⟨p1, z⟩
  · exact ⟨none, y.1⟩
/-- the least one is one of the sets -/
theorem least_num {d t f m : Nat} (B : Bounds w W d t f) {xs : List Nat} (h : LeastUn w W d t f m (some xs)) :
    0 < numS xs ∧ numS xs < 2 ^ m ∧ rem w W (numS xs) = 0 ∧ onesN (numS xs) m = xs := by
  obtain ⟨z1, z2, _, _⟩ := least_unseen_zero C B h
  have hl := least_lt B.1.pos h
  have e := ones_num z2 hl
  have lt := numS_lt hl
  refine ⟨?_, lt, ?_, e⟩
  · rcases Nat.eq_zero_or_pos (numS xs) with z | z
    · have hne : xs ≠ [] := by
        have := least_size h
        rcases h with ⟨_, rfl⟩ | ⟨_, o, q, _, rfl⟩ | ⟨_, o, q, l, _, rfl⟩ <;> simp
      rw [z] at e
      have : onesN 0 m = [] := by unfold onesN; simp
      rw [this] at e
      exact absurd e.symm hne
    · exact z
  · rw [← valP_ones C lt, e, z1]
def lexI (ts : List Nat) : List Int := ts.map fun (t : Nat) => (t : Int)
omit C in
theorem lex_cons {a b : Nat} {xs ys : List Nat} (h : a < b ∨ (a = b ∧ lexI xs ≤ lexI ys)) : lexI (a :: xs) ≤ lexI (b :: ys) := by
  show ((a : Int) :: lexI xs) ≤ ((b : Int) :: lexI ys)
  rw [List.cons_le_cons_iff]
  rcases h with h | ⟨h, k⟩
  · exact .inl (by omega)
  · exact .inr ⟨by omega, k⟩
omit C in
theorem lex_refl (xs : List Nat) : lexI xs ≤ lexI xs := List.le_refl _
theorem un_lex {d t f m : Nat} (B : Bounds w W d t f) {xs : List Nat} (h : LeastUn w W d t f m (some xs)) {ys : List Nat} (hp : ys.Pairwise (· < ·)) (hm : ∀ y ∈ ys, y < m) (hv : valP w W ys = 0) (hl : ys.length = xs.length) : lexI xs ≤ lexI ys := by
  have hc := dist_cases (d := d) (t := t) (f := f) (n := m)
  rcases h with ⟨a, rfl⟩ | ⟨a, o, q, h, rfl⟩ | ⟨a, o, q, l, h, rfl⟩
  · match ys, hl with
    | [x, y], _ =>
      have hab : x < y := by simp at hp; exact hp
      rcases Nat.eq_zero_or_pos x with e | e
      · subst e
        refine lex_cons (.inr ⟨rfl, ?_⟩)
        have z : pw w W 0 = pw w W y := by
          have : 0 ^^^ pw w W 0 ^^^ pw w W y = 0 := hv
          rw [Nat.zero_xor] at this
          exact xor_eq0.mp this
        have : ¬ y < d := fun c => no2 C B.1 hab c z
        by_cases c : d = y
        · exact lex_cons (.inr ⟨c, lex_refl _⟩)
        · exact lex_cons (.inl (by omega))
      · exact lex_cons (.inl e)
  · have hn : m ≤ d := by rcases hc with z | z | z | z <;> first | (rw [a] at z; cases z.1; done) | exact z.2.1
    match ys, hl with
    | [x, y, u], _ =>
      have hab : x < y ∧ y < u := by simp at hp; omega
      have hu := hm u (by simp)
      rcases Nat.eq_zero_or_pos x with e | e
      · subst e
        refine lex_cons (.inr ⟨rfl, ?_⟩)
        have z : pw w W u = pw w W y ^^^ 1 := by
          have : 0 ^^^ pw w W 0 ^^^ pw w W y ^^^ pw w W u = 0 := hv
          rw [Nat.zero_xor, pw_zero C] at this
          rw [← xor_eq0.mp this, Nat.xor_comm]
        rcases Nat.lt_trichotomy o y with c | c | c
        · exact lex_cons (.inl c)
        · subst c
          have : q = u := pw_inj C B.1 (by have := h.h2; omega) (by omega) (by rw [h.at_, z])
          subst this
          exact lex_refl _
        · exact absurd ⟨u, hab.2, hu, z⟩ (h.ne y hab.1 c)
      · exact lex_cons (.inl e)
  · have hn : m ≤ d := by rcases hc with z | z | z | z <;> first | (rw [a] at z; cases z.1; done) | exact z.2.1
    match ys, hl with
    | [x, y, u, v], _ =>
      have hab : x < y ∧ y < u ∧ u < v := by simp at hp; omega
      have hu := hm v (by simp)
      rcases Nat.eq_zero_or_pos x with e | e
      · subst e
        refine lex_cons (.inr ⟨rfl, ?_⟩)
        have z : pw w W v = pw w W y ^^^ pw w W u ^^^ 1 := by
          have : 0 ^^^ pw w W 0 ^^^ pw w W y ^^^ pw w W u ^^^ pw w W v = 0 := hv
          rw [Nat.zero_xor, pw_zero C] at this
          rw [← xor_eq0.mp this]
          ac_rfl
        rcases Nat.lt_trichotomy o y with c | c | c
        · exact lex_cons (.inl c)
        · subst c
          refine lex_cons (.inr ⟨rfl, ?_⟩)
          rcases Nat.lt_trichotomy q u with c | c | c
          · exact lex_cons (.inl c)
          · subst c
            have : l = v := pw_inj C B.1 (by have := h.h3; omega) (by omega) (by rw [h.at_, z])
            subst this
            exact lex_refl _
          · exact absurd ⟨v, hab.2.2, hu, z⟩ (h.ne o u hab.1 hab.2.1 (.inr ⟨rfl, c⟩))
        · exact absurd ⟨v, hab.2.2, hu, z⟩ (h.ne y u hab.1 hab.2.1 (.inl c))
      · exact lex_cons (.inl e)
/-! ### longest, by all sets -/
omit C in
def Hit (w W few c a : Nat) : Prop := pw w W a = pw w W c ∨ (3 < few ∧ ∃ b, b < a ∧ pw w W a ^^^ pw w W b = pw w W c) ∨ (4 < few ∧ ∃ b e, b < a ∧ e < b ∧ pw w W a ^^^ pw w W b ^^^ pw w W e = pw w W c)
theorem hit_no {few L c a : Nat} (hL : IsLongest w W few L) (hc : c < L) (ha : a < c) : ¬ Hit w W few c a := by
  have three : ∀ {t : Nat}, (∀ p, p < t → ¬ Three w W p) → c < t → ¬ ∃ b, b < a ∧ pw w W a ^^^ pw w W b = pw w W c := by
    rintro t T h ⟨b, hb, z⟩
    exact no3 C T hb ha h (by rw [← z, Nat.xor_comm (pw w W b), Nat.xor_self])
  rcases hL with ⟨e, h⟩ | ⟨e, d, h, h1⟩ | ⟨e, d, t, h, h1, h2⟩ <;> rintro (z | ⟨l, z⟩ | ⟨l, b, g, hb, hg, z⟩) <;> first | omega | skip
  · exact no2 C h ha hc z
  · exact no2 C h ha (by have := h1.le; omega) z
  · exact three h1.ne hc z
  · exact no2 C h ha (by have := h1.le; have := h2.le; omega) z
  · exact three h1.ne (by have := h2.le; omega) z
  · refine no4 C h2.ne hg hb ha hc ?_
    rw [← z]
    rw [show pw w W g ^^^ pw w W b ^^^ pw w W a = pw w W a ^^^ pw w W b ^^^ pw w W g by ac_rfl, Nat.xor_self]
theorem hit_at {few L : Nat} (hL : IsLongest w W few L) : 1 ≤ L ∧ ∃ a, a < L ∧ Hit w W few L a := by
  have one : ∀ {d : Nat}, IsOrder w W d → 1 ≤ d ∧ ∃ a, a < d ∧ Hit w W few d a := fun {d} h => ⟨h.pos, 0, h.pos, .inl (by rw [h.at_, pw_zero C])⟩
  have two : ∀ {d t : Nat}, 3 < few → IsOrder w W d → IsFirst (Three w W) d t → 1 ≤ t ∧ ∃ a, a < t ∧ Hit w W few t a := by
    intro d t l h h1
    by_cases c : t < d
    · obtain ⟨q, q0, q1, q2⟩ := h1.at_ c
      exact ⟨by omega, q, q1, .inr (.inl ⟨l, 0, q0, by rw [q2, pw_zero C, Nat.xor_assoc, Nat.xor_self, Nat.xor_zero]⟩)⟩
    · have : t = d := by have := h1.le; omega
      subst this
      exact one h
  rcases hL with ⟨e, h⟩ | ⟨e, d, h, h1⟩ | ⟨e, d, t, h, h1, h2⟩
  · exact one h
  · exact two (by omega) h h1
  · by_cases c : L < t
    · obtain ⟨o, q, q0, q1, q2, q3⟩ := h2.at_ c
      refine ⟨by omega, q, q2, .inr (.inr ⟨by omega, o, 0, q1, q0, ?_⟩)⟩
      rw [Nat.xor_comm (pw w W q), q3, pw_zero C, Nat.xor_assoc, Nat.xor_self, Nat.xor_zero]
    · have : L = t := by have := h2.le; omega
      subst this
      exact two (by omega) h h1
/-! ### an even check, even sets -/
omit C in
theorem par_xor (x y : Nat) : ∀ k, (onesN (x ^^^ y) k).length % 2 = ((onesN x k).length + (onesN y k).length) % 2
  | 0 => rfl
  | k + 1 => by
    have ih := par_xor x y k
    rw [ones_succ, ones_succ, ones_succ, Nat.testBit_xor]
    cases x.testBit k <;> cases y.testBit k <;> simp <;> omega
omit C in
theorem par_dbl (a b k : Nat) (hb : b < 2) : (onesN (2 * a + b) (k + 1)).length = (onesN a k).length + b := by
  induction k with
  | zero =>
    rw [ones_succ]
    have : (2 * a + b).testBit 0 = decide (b = 1) := by rw [Nat.testBit_zero]; congr 1; rw [eq_iff_iff]; omega
    rw [this]
    rcases (by omega : b = 0 ∨ b = 1) with rfl | rfl <;> rfl
  | succ k ih =>
    rw [ones_succ, ones_succ a k, List.length_append, List.length_append, ih]
    have : (2 * a + b).testBit (k + 1) = a.testBit k := by rw [Nat.testBit_succ]; congr 1; omega
    rw [this]
    cases a.testBit k <;> simp <;> omega
theorem par_rem (hW : (onesN W (w + 1)).length % 2 = 0) : ∀ k n, n < 2 ^ k → (onesN (rem w W n) w).length % 2 = (onesN n k).length % 2
  | 0, n, h => by
    have : n = 0 := by simpa using h
    subst this
    rw [rem_zero]
    have : onesN 0 w = [] := by unfold onesN; simp
    rw [this]
    rfl
  | k + 1, n, h => by
    have h2 : n / 2 < 2 ^ k := by rw [Nat.pow_succ] at h; omega
    have ih := par_rem hW k (n / 2) h2
    have e1 := par_dbl (n / 2) (n % 2) k (by omega)
    rw [show 2 * (n / 2) + n % 2 = n by omega] at e1
    have hr := rem_lt C (n / 2)
    have hx : 2 * rem w W (n / 2) + n % 2 < 2 ^ (w + 1) := by rw [Nat.pow_succ]; omega
    have e2 := par_dbl (rem w W (n / 2)) (n % 2) w (by omega)
    rw [rem_step, ← ones_more (red_lt C hx) (Nat.le_succ w)]
    have e3 : (onesN (red w W (2 * rem w W (n / 2) + n % 2)) (w + 1)).length % 2 = (onesN (2 * rem w W (n / 2) + n % 2) (w + 1)).length % 2 := by
      by_cases c : 2 ^ w ≤ 2 * rem w W (n / 2) + n % 2
      · rw [red_hi C hx c, par_xor]
        omega
      · rw [red_id C (Nat.lt_of_not_le c)]
    show (onesN (red w W (2 * rem w W (n / 2) + n % 2)) (w + 1)).length % 2 = _
    rw [e3, e2, e1]
    omega
theorem par_even (hW : (onesN W (w + 1)).length % 2 = 0) {n k : Nat} (h : n < 2 ^ k) (z : rem w W n = 0) : (onesN n k).length % 2 = 0 := by
  rw [← par_rem C hW k n h, z]
  have : onesN 0 w = [] := by unfold onesN; simp
  rw [this]
  rfl
end
end My

set_option linter.all false
set_option linter.unusedSectionVars false
namespace My
/-! ### shapes: right rows from the place 0 to the place s -/
/-- how many -/
def cntS (w s : Nat) : Nat := if w < s then 2 ^ (s - w - 1) else if s = w then 1 else 0
/-- one step of the making: the bit at j + w becomes that of k at j - 1 -/
def stepS (w W k : Nat) (f j : Nat) : Nat := if f.testBit (j + w) = k.testBit (j - 1) then f else f ^^^ (W <<< j)
/-- the making, i steps down from m - 1 -/
def makeS (w W m k : Nat) : Nat → Nat
  | 0 => W <<< m
  | i + 1 => stepS w W k (makeS w W m k i) (m - 1 - i)
/-- the shape of the span s with the number k -/
def shapeN (w W s k : Nat) : Nat := if w < s then makeS w W (s - w) k (s - w - 1) ^^^ W else W <<< (s - w)
section
variable {w W : Nat} (C : Ck w W)
include C
theorem W_top : W.testBit w = true := by rw [bit_top C.hi]; exact decide_eq_true (Nat.le_of_lt C.lo)
theorem W_shl_lt (j : Nat) : W <<< j < 2 ^ (w + 1 + j) := by
  rw [Nat.shiftLeft_eq, Nat.pow_add]
  exact Nat.mul_lt_mul_of_pos_right C.hi (Nat.pow_pos (by decide))
theorem W_shl_hi {j i : Nat} (h : w + 1 + j ≤ i) : (W <<< j).testBit i = false := Nat.testBit_lt_two_pow (Nat.lt_of_lt_of_le (W_shl_lt C j) (Nat.pow_le_pow_right (by decide) h))
theorem W_shl_lo {j i : Nat} (h : i < j) : (W <<< j).testBit i = false := by
  rw [Nat.testBit_shiftLeft]
  simp [show ¬ j ≤ i by omega]
omit C in
theorem range_top {s v : Nat} : (2 ^ s ≤ v ∧ v < 2 ^ (s + 1)) ↔ (v < 2 ^ (s + 1) ∧ v.testBit s = true) := by
  constructor
  · intro ⟨h1, h2⟩
    exact ⟨h2, by rw [bit_top h2]; exact decide_eq_true h1⟩
  · intro ⟨h1, h2⟩
    rw [bit_top h1] at h2
    exact ⟨of_decide_eq_true h2, h1⟩
/-- what is known after i steps -/
structure Mk (w W m k i f : Nat) : Prop where
  rem0 : rem w W f = 0
  lt : f < 2 ^ (w + m + 1)
  top : f.testBit (w + m) = true
  low : ∀ q, q < m - i → f.testBit q = false
  bits : ∀ q, m - i ≤ q → q < m → f.testBit (q + w) = k.testBit (q - 1)
theorem mk_zero (m k : Nat) : Mk w W m k 0 (makeS w W m k 0) := by
  refine ⟨rem_shl C _ _ (rem_self C), ?_, ?_, fun q hq => W_shl_lo C (by omega), fun q h1 h2 => by omega⟩
  · have := W_shl_lt C m
    rwa [show w + 1 + m = w + m + 1 by omega] at this
  · show (W <<< m).testBit (w + m) = true
    rw [Nat.testBit_shiftLeft]
    simp [W_top C]
theorem mk_step {m k i f : Nat} (h : Mk w W m k i f) (hi : i + 1 < m) : Mk w W m k (i + 1) (stepS w W k f (m - 1 - i)) := by
  unfold stepS
  by_cases c : f.testBit (m - 1 - i + w) = k.testBit (m - 1 - i - 1)
  · rw [if_pos c]
    refine ⟨h.rem0, h.lt, h.top, fun q hq => h.low q (by omega), fun q h1 h2 => ?_⟩
    by_cases e : q = m - 1 - i
    · rw [e]; exact c
    · exact h.bits q (by omega) h2
  · rw [if_neg c]
    refine ⟨?_, ?_, ?_, fun q hq => ?_, fun q h1 h2 => ?_⟩
    · rw [rem_xor C, h.rem0, rem_shl C _ _ (rem_self C)]
      rfl
    · refine Nat.xor_lt_two_pow h.lt (Nat.lt_of_lt_of_le (W_shl_lt C _) (Nat.pow_le_pow_right (by decide) (by omega)))
    · rw [Nat.testBit_xor, h.top, W_shl_hi C (by omega)]
      rfl
    · rw [Nat.testBit_xor, h.low q (by omega), W_shl_lo C (by omega)]
      rfl
    · rw [Nat.testBit_xor]
      by_cases e : q = m - 1 - i
      · rw [e, Nat.testBit_shiftLeft]
        simp only [show m - 1 - i ≤ m - 1 - i + w by omega, decide_true, Bool.true_and, Nat.add_sub_cancel_left, W_top C]
        cases h1 : f.testBit (m - 1 - i + w) <;> cases h2 : k.testBit (m - 1 - i - 1) <;> simp [h1, h2] at c ⊢
      · rw [h.bits q (by omega) h2, W_shl_hi C (by omega)]
        cases k.testBit (q - 1) <;> rfl
theorem mk_all {m k : Nat} : ∀ i, i < m → Mk w W m k i (makeS w W m k i)
  | 0, _ => mk_zero C m k
  | i + 1, hi => mk_step C (mk_all i (by omega)) hi
/-- a shape of the span s with the number k -/
structure IsShape (w W s k v : Nat) : Prop where
  lt : v < 2 ^ (s + 1)
  top : v.testBit s = true
  odd : v.testBit 0 = true
  rem0 : rem w W v = 0
  num : w < s → v >>> (w + 1) = 2 ^ (s - w - 1) + k
omit C in
theorem num_of {w s k v : Nat} (h : w < s) (hk : k < 2 ^ (s - w - 1)) (lt : v < 2 ^ (s + 1)) (top : v.testBit s = true) (b : ∀ q, 1 ≤ q → q < s - w → v.testBit (q + w) = k.testBit (q - 1)) : v >>> (w + 1) = 2 ^ (s - w - 1) + k := by
  refine Nat.eq_of_testBit_eq fun i => ?_
  rw [Nat.testBit_shiftRight]
  rcases Nat.lt_trichotomy i (s - w - 1) with c | c | c
  · rw [show w + 1 + i = i + 1 + w by omega, b (i + 1) (by omega) (by omega), Nat.testBit_two_pow_add_gt c, Nat.add_sub_cancel]
  · rw [c, show w + 1 + (s - w - 1) = s by omega, top, Nat.testBit_two_pow_add_eq, Nat.testBit_lt_two_pow hk]
    rfl
  · rw [Nat.testBit_lt_two_pow (Nat.lt_of_lt_of_le lt (Nat.pow_le_pow_right (by decide) (by omega))), Nat.testBit_lt_two_pow]
    have : 2 ^ (s - w - 1 + 1) ≤ 2 ^ i := Nat.pow_le_pow_right (by decide) c
    rw [Nat.pow_succ] at this
    omega
theorem shape_is {s k : Nat} (hk : k < cntS w s) : IsShape w W s k (shapeN w W s k) := by
  unfold cntS at hk
  unfold shapeN
  by_cases c : w < s
  · rw [if_pos c] at hk ⊢
    have h := mk_all C (m := s - w) (k := k) (s - w - 1) (by omega)
    generalize makeS w W (s - w) k (s - w - 1) = f at h
    have hs : w + (s - w) = s := by omega
    have lt : f ^^^ W < 2 ^ (s + 1) := Nat.xor_lt_two_pow (by have := h.lt; rwa [hs] at this) (Nat.lt_of_lt_of_le C.hi (Nat.pow_le_pow_right (by decide) (by omega)))
    have hW : ∀ i, w + 1 ≤ i → W.testBit i = false := fun i hi => Nat.testBit_lt_two_pow (Nat.lt_of_lt_of_le C.hi (Nat.pow_le_pow_right (by decide) hi))
    have top : (f ^^^ W).testBit s = true := by
      have := h.top
      rw [hs] at this
      rw [Nat.testBit_xor, this, hW s (by omega)]
      rfl
    refine ⟨lt, top, ?_, ?_, fun _ => num_of c hk lt top fun q h1 h2 => ?_⟩
    · rw [Nat.testBit_xor, h.low 0 (by omega)]
      have := C.odd
      rw [Nat.testBit_zero, decide_eq_true this]
      rfl
    · rw [rem_xor C, h.rem0, rem_self C]
      rfl
    · rw [Nat.testBit_xor, h.bits q (by omega) h2, hW (q + w) (by omega)]
      cases k.testBit (q - 1) <;> rfl
  · rw [if_neg c] at hk ⊢
    have e : s = w := by
      by_cases e : s = w
      · exact e
      · rw [if_neg e] at hk; omega
    subst e
    rw [Nat.sub_self, Nat.shiftLeft_zero]
    have := C.odd
    exact ⟨C.hi, W_top C, by rw [Nat.testBit_zero, decide_eq_true this], rem_self C, fun z => absurd z c⟩
/-- what vanishes and is short -/
theorem short_zero {x : Nat} (h : x < 2 ^ (w + 1)) (r : rem w W x = 0) : x = 0 ∨ x = W := by
  by_cases c : x < 2 ^ w
  · rw [rem_small C x c] at r
    exact .inl r
  · refine .inr (xor_eq0.mp ?_)
    have h2 := xor_low h C.hi (by omega) (Nat.le_of_lt C.lo)
    have h3 : rem w W (x ^^^ W) = 0 := by rw [rem_xor C, r, rem_self C]; rfl
    rwa [rem_small C _ h2] at h3
theorem shape_uniq {s k v u : Nat} (a : IsShape w W s k v) (b : IsShape w W s k u) : v = u := by
  by_cases c : w < s
  · refine xor_eq0.mp ?_
    have h1 : (v ^^^ u) < 2 ^ (w + 1) := by
      refine Nat.lt_pow_two_of_testBit _ fun i hi => ?_
      have e : (v >>> (w + 1)).testBit (i - (w + 1)) = (u >>> (w + 1)).testBit (i - (w + 1)) := by rw [a.num c, b.num c]
      rw [Nat.testBit_shiftRight, Nat.testBit_shiftRight, show w + 1 + (i - (w + 1)) = i by omega] at e
      rw [Nat.testBit_xor, e]
      cases u.testBit i <;> rfl
    have h2 : rem w W (v ^^^ u) = 0 := by rw [rem_xor C, a.rem0, b.rem0]; rfl
    rcases short_zero C h1 h2 with h | h
    · exact h
    · have e : (v ^^^ u).testBit 0 = W.testBit 0 := by rw [h]
      rw [Nat.testBit_xor, a.odd, b.odd, Nat.testBit_zero, decide_eq_true C.odd] at e
      exact nomatch e
  · have key : ∀ x, IsShape w W s k x → x = W := fun x h => by
      rcases short_zero C (Nat.lt_of_lt_of_le h.lt (Nat.pow_le_pow_right (by decide) (by omega))) h.rem0 with z | z
      · have := h.odd
        rw [z] at this
        simp at this
      · exact z
    rw [key v a, key u b]
/-- the numbers that are shapes -/
def shapesL (w W s : Nat) : List Nat := (((List.range (2 ^ s)).map (2 ^ s + ·)).filter fun n => decide (n % 2 = 1)).filter fun n => decide (rem w W n = 0)
omit C in
theorem shapes_mem {s v : Nat} : v ∈ shapesL w W s ↔ (2 ^ s ≤ v ∧ v < 2 ^ (s + 1)) ∧ v % 2 = 1 ∧ rem w W v = 0 := by
  unfold shapesL
  rw [List.mem_filter, List.mem_filter, List.mem_map, decide_eq_true_eq, decide_eq_true_eq, Nat.pow_succ]
  constructor
  · rintro ⟨⟨⟨a, ha, rfl⟩, h2⟩, h3⟩
    have := List.mem_range.mp ha
    exact ⟨⟨by omega, by omega⟩, h2, h3⟩
  · rintro ⟨⟨h1, h2⟩, h3, h4⟩
    exact ⟨⟨⟨v - 2 ^ s, List.mem_range.mpr (by omega), by omega⟩, h3⟩, h4⟩
theorem shape_mono {s k j : Nat} (hk : k < j) (hj : j < cntS w s) : shapeN w W s k < shapeN w W s j := by
  have c : w < s := by
    unfold cntS at hj
    by_cases c : w < s
    · exact c
    · rw [if_neg c] at hj
      by_cases e : s = w
      · rw [if_pos e] at hj; omega
      · rw [if_neg e] at hj; omega
  have h1 := (shape_is C (s := s) (k := k) (by omega)).num c
  have h2 := (shape_is C hj).num c
  have hp : 0 < 2 ^ (w + 1) := Nat.pow_pos (by decide)
  rw [Nat.shiftRight_eq_div_pow] at h1 h2
  by_cases d : shapeN w W s k < shapeN w W s j
  · exact d
  · have := Nat.div_le_div_right (c := 2 ^ (w + 1)) (show shapeN w W s j ≤ shapeN w W s k by omega)
    omega
theorem shapes_all (s : Nat) : shapesL w W s = (List.range (cntS w s)).map (shapeN w W s) := by
  refine rising_eq ?_ ?_ fun v => ?_
  · unfold shapesL
    refine List.Pairwise.filter _ (List.Pairwise.filter _ ?_)
    rw [List.pairwise_map]
    exact List.pairwise_lt_range.imp fun h => by omega
  · rw [List.pairwise_map]
    refine List.pairwise_iff_getElem.mpr fun i j hi hj hij => ?_
    rw [List.getElem_range, List.getElem_range]
    rw [List.length_range] at hj
    exact shape_mono C hij hj
  · rw [shapes_mem, List.mem_map]
    constructor
    · rintro ⟨h1, h2, h3⟩
      obtain ⟨hl, ht⟩ := range_top.mp h1
      have ho : v.testBit 0 = true := by rw [Nat.testBit_zero]; exact decide_eq_true h2
      by_cases c : w < s
      · have hp : (2 : Nat) ^ s = 2 ^ (s - w - 1) * 2 ^ (w + 1) := by rw [← Nat.pow_add]; congr 1; omega
        have hp2 : (2 : Nat) ^ (s + 1) = 2 ^ (s - w - 1) * 2 * 2 ^ (w + 1) := by rw [Nat.pow_succ, hp, Nat.mul_right_comm]
        have hpp : 0 < 2 ^ (w + 1) := Nat.pow_pos (by decide)
        have a1 : 2 ^ (s - w - 1) ≤ v / 2 ^ (w + 1) := (Nat.le_div_iff_mul_le hpp).mpr (by omega)
        have a2 : v / 2 ^ (w + 1) < 2 ^ (s - w - 1) * 2 := (Nat.div_lt_iff_lt_mul hpp).mpr (by omega)
        have hk : v / 2 ^ (w + 1) - 2 ^ (s - w - 1) < cntS w s := by unfold cntS; rw [if_pos c]; omega
        refine ⟨_, List.mem_range.mpr hk, (shape_uniq C (shape_is C hk) ⟨hl, ht, ho, h3, fun _ => ?_⟩)⟩
        rw [Nat.shiftRight_eq_div_pow]
        omega
      · have hv := short_zero C (Nat.lt_of_lt_of_le hl (Nat.pow_le_pow_right (by decide) (by omega))) h3
        have hv : v = W := by
          rcases hv with z | z
          · rw [z] at h2; omega
          · exact z
        subst hv
        have e : s = w := by
          by_cases e : s = w
          · exact e
          · have : 2 ^ (s + 1) ≤ 2 ^ w := Nat.pow_le_pow_right (by decide) (by omega)
            have := C.lo
            omega
        subst e
        refine ⟨0, List.mem_range.mpr (by unfold cntS; rw [if_neg c, if_pos rfl]; decide), ?_⟩
        unfold shapeN
        rw [if_neg c, Nat.sub_self, Nat.shiftLeft_zero]
    · rintro ⟨k, hk, rfl⟩
      have h := shape_is C (List.mem_range.mp hk)
      exact ⟨range_top.mpr ⟨h.lt, h.top⟩, by have := h.odd; rw [Nat.testBit_zero] at this; exact of_decide_eq_true this, h.rem0⟩
end
/-- the sum of the powers of the ones is the number -/
theorem ones_sum (n : Nat) : ∀ k, ((onesN n k).map fun i => 2 ^ i).sum = n % 2 ^ k
  | 0 => by rw [Nat.pow_zero, Nat.mod_one]; rfl
  | k + 1 => by
    rw [ones_succ, List.map_append, List.sum_append, ones_sum n k]
    have h : n % 2 ^ (k + 1) = n % 2 ^ k + 2 ^ k * (n / 2 ^ k % 2) := by rw [Nat.pow_succ, Nat.mod_mul]
    rw [h]
    have hb : n / 2 ^ k % 2 = (n.testBit k).toNat := by rw [Nat.toNat_testBit]
    rw [hb]
    cases n.testBit k <;> simp
/-- the number of a shape, told by its places -/
def numS' (w : Nat) (ts : List Nat) : Nat := (((ts.dropLast.filter fun t => decide (w < t)).map fun t => t - w - 1).map fun i => 2 ^ i).sum
theorem ones_last {v s : Nat} (h : v < 2 ^ (s + 1)) (t : v.testBit s = true) : onesN v (s + 1) = onesN v s ++ [s] := by rw [ones_succ, if_pos t]
theorem num_back {w W s k v : Nat} (C : Ck w W) (hk : k < cntS w s) (h : IsShape w W s k v) : numS' w (onesN v (s + 1)) = k := by
  unfold numS'
  rw [ones_last h.lt h.top, List.dropLast_concat]
  by_cases c : w < s
  · unfold cntS at hk
    rw [if_pos c] at hk
    have e : ((onesN v s).filter fun t => decide (w < t)).map (fun t => t - w - 1) = onesN k (s - w - 1) := by
      refine rising_eq ?_ (ones_rise _ _) fun i => ?_
      · rw [List.pairwise_map]
        refine (List.Pairwise.filter _ (ones_rise v s)).imp_of_mem fun {a b} ha hb h => ?_
        have h1 := of_decide_eq_true (List.mem_filter.mp ha).2
        omega
      · have hn := h.num c
        have hb : ∀ j, (v >>> (w + 1)).testBit j = (2 ^ (s - w - 1) + k).testBit j := fun j => by rw [hn]
        rw [List.mem_map, ones_mem]
        constructor
        · rintro ⟨t, ht, rfl⟩
          obtain ⟨h1, h2⟩ := List.mem_filter.mp ht
          have h2 := of_decide_eq_true h2
          obtain ⟨h3, h4⟩ := ones_mem.mp h1
          have := hb (t - w - 1)
          rw [Nat.testBit_shiftRight, show w + 1 + (t - w - 1) = t by omega, h4, Nat.testBit_two_pow_add_gt (by omega)] at this
          exact ⟨by omega, this.symm⟩
        · rintro ⟨h1, h2⟩
          refine ⟨i + w + 1, List.mem_filter.mpr ⟨ones_mem.mpr ⟨by omega, ?_⟩, decide_eq_true (by omega)⟩, by omega⟩
          have := hb i
          rw [Nat.testBit_shiftRight, Nat.testBit_two_pow_add_gt h1, h2] at this
          rw [show i + w + 1 = w + 1 + i by omega]
          exact this
    rw [e, ones_sum, Nat.mod_eq_of_lt hk]
  · have e : (onesN v s).filter (fun t => decide (w < t)) = [] := by
      rw [List.filter_eq_nil_iff]
      intro t ht z
      have := (ones_mem.mp ht).1
      have := of_decide_eq_true z
      omega
    rw [e]
    unfold cntS at hk
    rw [if_neg c] at hk
    by_cases e2 : s = w
    · rw [if_pos e2] at hk
      show 0 = k
      omega
    · rw [if_neg e2] at hk; omega
end My

namespace My
open PySem PySem.Spec PyProof.Rows L2 Pre
/-! ### checks, rests, powers (as in the family's texts, with errors told) -/
def EE (H : Hp) (E : XK) (C : Addr) (v : V) : Prop := ∀ H' dd, Same H H' → H' dd = none → E (.ref C) (some dd) (upd H' dd (.xd [("value", v)]))
theorem EE.same {H H1 : Hp} {E : XK} {C : Addr} {v : V} (s : Same H H1) (h : EE H E C v) : EE H1 E C v := fun H' dd s' nd => h H' dd (s.trans s') nd
/-- no check -/
def NoC (K : PySem.W.Frag) (H : Hp) (v : V) : Prop := ∃ T ∈ notTys, TyX K H v (.type T)
theorem NoC.same {K : PySem.W.Frag} {H H' : Hp} {v : V} (s : Same H H') (h : NoC K H v) : NoC K H' v := by
  obtain ⟨T, m, ty⟩ := h
  exact ⟨T, m, ty.same s⟩
theorem tyx_insC {K : PySem.W.Frag} {H : Hp} {a C dx : Addr} {fs : List (Str × V)} (c : C8.InsC K C) (h : H a = some (.ins C dx fs)) : TyX K H (.ref a) (.ref C) := .base (.ins h c.cl c.ha c.hn c.htk c.hm)
/-! ### numbers that are not negative -/
theorem bx (a b : Nat) : Builtin.bitXor (a : Int) (b : Int) = ((a ^^^ b : Nat) : Int) := by
  rw [Bits.bitXor_pp (by omega) (by omega)]
  rfl
theorem shrI (a k : Nat) : (a : Int) / 2 ^ ((k : Int)).toNat = ((a >>> k : Nat) : Int) := by
  rw [Int.toNat_natCast, Nat.shiftRight_eq_div_pow, Int.natCast_ediv, Int.natCast_pow]
  rfl
theorem shlI (a k : Nat) : (a : Int) * 2 ^ ((k : Int)).toNat = ((a <<< k : Nat) : Int) := by
  rw [Int.toNat_natCast, Nat.shiftLeft_eq, Int.natCast_mul, Int.natCast_pow]
  rfl
theorem and1 (n : Nat) : Builtin.bitAnd (n : Int) 1 = ((n % 2 : Nat) : Int) := by
  rw [bitAnd_m1]
  omega
theorem small1000' {n : Nat} (h : n ≤ 10000) : n < sizeLine := by rw [sizeLine_eq]; omega
theorem pow17 {w : Nat} (h : w ≤ 16) : 2 ^ w ≤ 65536 := Nat.le_trans (Nat.pow_le_pow_right (by decide) h) (by decide)
theorem seq_ne {H : Hp} {p : Addr} {o : HO} (h : H p = some o) : H p ≠ none := by rw [h]; exact fun z => nomatch z
/-- a check of the width wd and the sum W -/
def CheckAt (C : Addr) (H : Hp) (a : Addr) (wd W : Nat) : Prop := Ck wd W ∧ wd ≤ 16 ∧ ∃ dx, H a = some (.ins C dx [("size", .int wd), ("tail", .int (W - 2 ^ wd : Nat))])
theorem CheckAt.same {C : Addr} {H H' : Hp} {a : Addr} {wd W : Nat} (h : CheckAt C H a wd W) (s : Same H H') : CheckAt C H' a wd W := by
  obtain ⟨h1, h2, dx, h3⟩ := h
  exact ⟨h1, h2, dx, s _ _ h3⟩
theorem CheckAt.but {C g : Addr} {H H' : Hp} {a : Addr} {wd W : Nat} (h : CheckAt C H a wd W) (n : a ≠ g) (s : But g H H') : CheckAt C H' a wd W := by
  obtain ⟨h1, h2, dx, h3⟩ := h
  exact ⟨h1, h2, dx, s _ _ n h3⟩
theorem CheckAt.ne {C g : Addr} {H : Hp} {a : Addr} {wd W : Nat} {xs : List V} (h : CheckAt C H a wd W) (hg : H g = some (.lst xs)) : a ≠ g := by
  obtain ⟨h1, h2, dx, h3⟩ := h
  exact ne_of h3 hg (by intro z; cases z)
theorem ck_of {wd l : Nat} (h : 1 ≤ wd) (hl : l < 2 ^ wd) (ho : l % 2 = 1) : Ck wd (2 ^ wd + l) := by
  have e : 2 ^ (wd + 1) = 2 ^ wd * 2 := Nat.pow_succ ..
  have e2 : 2 ^ wd = 2 ^ (wd - 1) * 2 := by
    rw [← Nat.pow_succ, show (wd - 1).succ = wd by omega]
  exact ⟨h, by omega, by omega, by omega⟩

theorem k_all {X : Cx} (K : PySem.W.Frag) (h : X.K = K) (hc : X.calm = true) : CallR X (.builtin "all") (rAll K) := by subst h; exact cr_all hc
theorem DtA.boolsE {H : Hp} : ∀ {bs : List Bool} {vs : List V}, DtA H vs (bs.map PyData.bool) → vs = bs.map V.bl
  | [], _, h => by cases h; rfl
  | b :: bs, _, h => by
    cases h with
    | cons a c =>
      cases a
      rw [DtA.boolsE c]
      rfl
theorem all_true (n : Nat) : (List.replicate n true).all id = true := by
  induction n with
  | zero => rfl
  | succ n ih => rw [List.replicate_succ, List.all_cons, ih]; rfl
theorem prod_mod (a b i : Nat) : prod a (b % 2 ^ (i + 1)) = prod a (b % 2 ^ i) ^^^ (if b >>> i % 2 = 1 then a <<< i else 0) := by
  have hi : b % 2 ^ i < 2 ^ i := Nat.mod_lt _ (Nat.pow_pos (by decide))
  have e : b % 2 ^ (i + 1) = b % 2 ^ i ^^^ ((b >>> i % 2) <<< i) := by
    refine Nat.eq_of_testBit_eq fun j => ?_
    rw [Nat.testBit_xor, Nat.testBit_mod_two_pow, Nat.testBit_mod_two_pow, Nat.testBit_shiftLeft]
    have hb : ∀ k, (b >>> i % 2).testBit k = (decide (k = 0) && b.testBit i) := fun k => by
      have : b >>> i % 2 = (b.testBit i).toNat := by rw [Nat.toNat_testBit, Nat.shiftRight_eq_div_pow]
      rw [this]
      cases b.testBit i <;> cases k <;> simp [Nat.testBit_succ]
    rw [hb]
    rcases Nat.lt_trichotomy j i with c | c | c
    · simp [show j < i + 1 by omega, c, show ¬ i ≤ j by omega]
    · subst c
      simp
    · simp [show ¬ j < i + 1 by omega, show ¬ j < i by omega, show ¬ j - i = 0 by omega]
  rw [e, prod_comm, prod_xorl, prod_comm _ a]
  congr 1
  have c : b >>> i % 2 = 0 ∨ b >>> i % 2 = 1 := by omega
  rcases c with c | c
  · rw [c, if_neg (by decide), Nat.zero_shiftLeft, prod_zerol]
  · rw [c, if_pos rfl, prod_comm]
    have : ∀ k, prod a (1 <<< k) = a <<< k := fun k => by
      induction k with
      | zero => rw [Nat.shiftLeft_zero, Nat.shiftLeft_zero, prod_comm, prod_one]
      | succ k ih =>
        rw [Nat.shiftLeft_succ, Nat.shiftLeft_succ, ← ih]
        have := prod_bit a (1 <<< k) 0 (by decide)
        simp only [Nat.add_zero] at this
        rw [this, if_neg (by decide), Nat.xor_zero]
    exact this i
/-- ways that meet again, whatever they stored -/
theorem joinS {b : Bool} {A : Prop} {R : L2.St → Hp → Prop} {σ : L2.St} {H : Hp} (Pv : L2.St → Hp → Prop) (cont : ∀ σ' H', Pv σ' H' → R σ' H') (h1 : b = true → (∀ σ' H', Pv σ' H' → R σ' H') → A) (h2 : b = false → Pv σ H) : if b = true then A else R σ H := by
  cases b with
  | true => rw [if_pos rfl]; exact h1 rfl cont
  | false => rw [if_neg (by decide)]; exact cont _ _ (h2 rfl)
/-- ascending places -/
def Rising (ts : List Nat) : Prop := ts.Pairwise (· < ·) ∧ (∀ t ∈ ts, t ≤ 10 ^ 18) ∧ ts.length ≤ 1000
def natI (ts : List Nat) : List Int := ts.map fun (t : Nat) => (t : Int)
theorem nat_at {ts : List Nat} {i : Nat} {x : V} (h : ((natI ts).map V.int)[i]? = some x) : ∃ t, ts[i]? = some t ∧ x = .int (t : Int) := by
  obtain ⟨n, hn, rfl⟩ := int_at h
  unfold natI at hn
  rw [List.getElem?_map] at hn
  obtain ⟨t, ht, rfl⟩ := Option.map_eq_some_iff.mp hn
  exact ⟨t, ht, rfl⟩
theorem nat_len (ts : List Nat) : ((natI ts).map V.int).length = ts.length := by unfold natI; rw [List.length_map, List.length_map]
theorem rd_listC {K : PySem.W.Frag} {H : Hp} {a : Addr} {xs : List V} (h : Rd H a (.lst xs)) : TyX K H (.ref a) (.type "list") := by
  rcases h with h | ⟨o, h⟩
  · exact .base (.lst h)
  · exact .base (.frz h)
theorem shr_half (b k : Nat) : b >>> (k + 1) = b >>> k / 2 := Nat.shiftRight_succ b k

theorem ones_sel (n k : Nat) : ((List.range k).map fun i => if n.testBit i = true then some (V.int (i : Int)) else none).filterMap id = (natI (onesN n k)).map V.int := by
  unfold onesN natI
  induction List.range k with
  | nil => rfl
  | cons i l ih =>
    by_cases c : n.testBit i = true
    · rw [List.map_cons, if_pos c, List.filter_cons_of_pos c, List.map_cons, List.map_cons, ← ih]
      rfl
    · rw [List.map_cons, if_neg c, List.filter_cons_of_neg c, ← ih]
      rfl
theorem bit_int (n i : Nat) : Builtin.bitAnd ((n : Int) / 2 ^ ((i : Int)).toNat) 1 = (((n.testBit i).toNat : Nat) : Int) := by
  rw [shrI, and1, Nat.toNat_testBit, Nat.shiftRight_eq_div_pow]
theorem bit_mod (n i : Nat) : (n : Int) / 2 ^ ((i : Int)).toNat % 2 = (((n.testBit i).toNat : Nat) : Int) := by
  rw [shrI, Nat.toNat_testBit, Nat.shiftRight_eq_div_pow]
  omega

theorem bl_iff {n m : Nat} : Builtin.Int.intBits (n : Int) ≤ m ↔ n < 2 ^ m := by
  rw [intBits_le_iff]
  rfl
theorem bl_W {wd W : Nat} (h : Ck wd W) : Builtin.Int.intBits (W : Int) = wd + 1 := by
  have h1 := bl_iff.mpr h.hi
  have h2 : ¬ Builtin.Int.intBits (W : Int) ≤ wd := fun z => by
    have := bl_iff.mp z
    have := h.lo
    omega
  omega
theorem rest_turn {wd W l : Nat} (h : Ck wd W) (c : wd + 1 ≤ Builtin.Int.intBits (l : Int)) : l ^^^ (W <<< (Builtin.Int.intBits (l : Int) - (wd + 1))) < l ∧ rem wd W (l ^^^ (W <<< (Builtin.Int.intBits (l : Int) - (wd + 1)))) = rem wd W l := by
  refine ⟨?_, ?_⟩
  · generalize hk : Builtin.Int.intBits (l : Int) - (wd + 1) = k
    have e : Builtin.Int.intBits (l : Int) = wd + k + 1 := by omega
    have h1 : l < 2 ^ (wd + k + 1) := bl_iff.mp (by omega)
    have h2 : 2 ^ (wd + k) ≤ l := by
      have : ¬ l < 2 ^ (wd + k) := fun z => by
        have := bl_iff.mpr z
        omega
      omega
    have hl := h.lo
    have hh := h.hi
    have h3 : W <<< k < 2 ^ (wd + k + 1) := by
      rw [Nat.shiftLeft_eq, show wd + k + 1 = wd + 1 + k by omega, Nat.pow_add]
      exact Nat.mul_lt_mul_of_pos_right hh (Nat.pow_pos (by omega))
    have h4 : 2 ^ (wd + k) ≤ W <<< k := by
      rw [Nat.shiftLeft_eq, Nat.pow_add]
      exact Nat.mul_le_mul_right _ (by omega)
    exact Nat.lt_of_lt_of_le (xor_low h1 h3 h2 h4) h2
  · rw [rem_xor h, rem_shl h _ _ (rem_self h), Nat.xor_zero]

local macro_rules | `(tactic| walk_at "go") => `(tactic| repeat (first | (with_reducible first | refine iteT ?_ | refine iteF ?_ | refine iteNtt ?_ | refine iteNff ?_ | refine iteET (by omega) ?_ | refine iteEF (by omega) ?_ | refine iteENT (by omega) ?_ | refine iteENF (by omega) ?_ | refine iteDT (by omega) ?_ | refine iteDF (by omega) ?_ | refine iteNT (by omega) ?_ | refine iteNF (by omega) ?_) | refine ⟨_, rfl, ?_⟩ | refine ⟨_, _, rfl, rfl, ?_⟩ | refine ⟨_, _, rfl, ?_⟩ | refine ⟨rfl, ?_⟩ | refine .inl ⟨_, rfl, ?_⟩ | refine .inr ⟨_, rfl, ?_⟩))
local macro_rules | `(tactic| walk_at "b") => `(tactic| try dsimp (config := { proj := false, iota := false, eta := false, zeta := false }) only)
section
variable {P : Program} {w : World} {K : PySem.W.Frag} {mg : Str → Option Value} {base : Heap} [pf : Sup.PF P fileS]
def sp_check_check (K : PySem.W.Frag) (C CE : Addr) : Sp := fun vs H Q E => ∃ v : V, vs = [v] ∧ ((∃ (a : Addr) (wd W : Nat), v = .ref a ∧ CheckAt C H a wd W ∧ Q .non H) ∨ (NoC K H v ∧ EE H E CE v))
theorem G_check_check (T : Top K mg) : FnOk P w K mg base (L2.CX P w) 3 T.f_check_check T.fd_check_check ["check"] (sp_check_check K T.C_Check T.C_InvalidCheck) := by
  refine T.F_check_check.ok (CX := L2.CX P w) sc_check_check (fun vs H Q E h => by obtain ⟨v, rfl, _⟩ := h; rfl) (fun cdv A outer s H vs Q E hr h => ?_)
  obtain ⟨v, rfl, h⟩ := h
  refine ⟨_, (pss_one (ps_if (pt_not (pt_val (pe_callB (k_isi K rfl) (by rfl) T.n_isinstance (by decide +kernel) (pa_cons (pv 0) (pa_cons (pe_glob (v := .ref T.C_Check) rfl T.gc_Check rfl) pa_nil)))))
    (pss_one (ps_raise rfl (takes_of rfl rfl rfl rfl) (pmk_oex T.er_InvalidCheck.sup.T T.er_InvalidCheck.ini T.er_InvalidCheck.ity (G_InvalidCheck___init__ (P := P) (CX := CX0) T) (hr.mono (by decide)) T.er_InvalidCheck.bnd .nil pass0 (by rfl) T.gc_InvalidCheck (pa_cons (pv 0) pa_nil))))
    pss_nil)), ?_⟩
  rcases h with ⟨a, wd, W, rfl, ⟨_, _, dx, ha⟩, q⟩ | ⟨⟨Ty, hT, ty⟩, q⟩
  · exact ⟨_, rfl, _, _, _, _, true, rfl, .own _, tyx_insC T.ic_Check ha, T.ic_Check.me, true, rfl, iteF q⟩
  · exact ⟨_, rfl, _, _, _, _, false, rfl, .own _, ty, T.kx_Check Ty hT, false, rfl, iteT ⟨_, rfl, mk_sup fun dd nd => q _ dd (Same.refl _) nd⟩⟩
theorem num_ok {K : PySem.W.Frag} {H : Hp} {i lo : Int} {hi : Option Int} (h : lo ≤ i) (k : ∀ j, hi = some j → i ≤ j) : NumV K H (.int i) lo hi true := .inl ⟨i, rfl, (decide_eq_true ⟨h, k⟩).symm⟩
def sp_Check___init__ (C : Addr) : Sp := fun vs H Q _ => ∃ (x dx : Addr) (wd l : Nat), vs = [.ref x, .int wd, .int l] ∧ H x = some (.ins C dx []) ∧ 1 ≤ wd ∧ wd ≤ 16 ∧ l < 2 ^ wd ∧ l % 2 = 1 ∧
  ∀ H', (∀ b o, b ≠ x → H b = some o → H' b = some o) → CheckAt C H' x wd (2 ^ wd + l) → Q .non H'
theorem G_Check___init__ (T : Top K mg) : FnOk P w K mg base CX0 4 T.f_Check___init__ T.fd_Check___init__ ["self", "width", "low"] (sp_Check___init__ T.C_Check) := by
  refine T.F_Check___init__.ok sc_Check___init__ (fun vs H Q E h => by obtain ⟨x, dx, wd, l, rfl, _⟩ := h; rfl) (fun cdv A outer s H vs Q E hr h => ?_)
  obtain ⟨x, dx, wd, l, rfl, hx, h1, h2, h3, h4, q⟩ := h
  refine ⟨_, PSs.nox (pss_cons (ps_expr (pe_call (G_check_number (P := P) T) (hr.mono (by decide)) (by rfl) T.g_check_number T.F_check_number.kp T.b_check_number .nil passL (pa_cons (pv 1) (pa_cons pe_int (pa_cons (pe_glob (v := .int 16) rfl T.m_MOST_WIDTH ⟨_, rfl⟩) pa_nil)))))
  (pss_cons (ps_expr (pe_call (G_check_number (P := P) T) (hr.mono (by decide)) (by rfl) T.g_check_number T.F_check_number.kp T.b_check_number .nil passL (pa_cons (pv 2) (pa_cons pe_int (pa_cons (pe_op op_sub (pe_op op_shl pe_int (pv 1)) pe_int) pa_nil)))))
  (pss_cons (ps_if (pt_cmpR op_eq (pe_op op_mod (pv 2) pe_int) pe_int (nomark _))
    (pss_one ps_never)
    pss_nil)
  (pss_cons (ps_fld (pv 0) (pv 1) rfl)
  (pss_one (ps_fld (pv 0) (pv 2) rfl)))))), ?_⟩
  refine ⟨_, rfl, .int wd, 1, some 16, true, rfl, num_ok (by omega) (fun j h => by cases h; omega), fun _ => ?_, fun z => nomatch z⟩
  refine ⟨_, rfl, _, rfl, _, _, rfl, rfl, ⟨by omega, by omega, by decide⟩, _, _, rfl, rfl, .int l, 1, some _, true, rfl, num_ok (by omega) (fun j h => by
    cases h
    rw [Int.one_mul, Int.toNat_natCast]
    have : ((2 ^ wd : Nat) : Int) = 2 ^ wd := by rw [Int.natCast_pow]; rfl
    omega), fun _ => ?_, fun z => nomatch z⟩
  refine ⟨_, rfl, _, _, rfl, rfl, (by show (0 : Int) < 2; decide), rfl, _, rfl, ?_⟩
  refine iteEF (by omega) ?_
  refine ⟨_, rfl, _, rfl, x, T.C_Check, dx, [], rfl, hx, T.cl_Check, T.na_Check_size, by decide, ?_⟩
  refine ⟨_, rfl, _, rfl, x, T.C_Check, dx, _, rfl, upd_same, T.cl_Check, T.na_Check_tail, (by show 1 < 1000; decide), ?_⟩
  refine q _ (fun b o nb hb => ?_) ⟨ck_of h1 h3 h4, h2, dx, ?_⟩
  · rw [upd_ne nb, upd_ne nb]
    exact hb
  · rw [upd_same, show 2 ^ wd + l - 2 ^ wd = l by omega]
    rfl
def sp_sum_of (C : Addr) : Sp := fun vs H Q _ => ∃ (a : Addr) (wd W : Nat), vs = [.ref a] ∧ CheckAt C H a wd W ∧ Q (.int W) H
theorem G_sum_of (T : Top K mg) : FnOk P w K mg base CX0 1 T.f_sum_of T.fd_sum_of ["check"] (sp_sum_of T.C_Check) := by
  refine T.F_sum_of.ok sc_sum_of (fun vs H Q E h => by obtain ⟨a, wd, W, rfl, _⟩ := h; rfl) (fun cdv A outer s H vs Q E hr h => ?_)
  obtain ⟨a, wd, W, rfl, hC, q⟩ := h
  refine ⟨_, PSs.nox (pss_one (ps_ret (pe_op op_add (pe_op op_shl pe_int (pe_fld (pv 0) rfl)) (pe_fld (pv 0) rfl)))), ?_⟩
  obtain ⟨hK, hw, dx, ha⟩ := hC
  refine ⟨_, rfl, a, T.C_Check, dx, _, _, rfl, ha, T.cl_Check, T.na_Check_size, rfl, _, _, rfl, rfl, ⟨by omega, by omega, by decide⟩, _, rfl, a, T.C_Check, dx, _, _, rfl, ha, T.cl_Check, T.na_Check_tail, rfl, _, _, rfl, rfl, ?_⟩
  have e : (1 : Int) * 2 ^ ((wd : Int)).toNat + ((W - 2 ^ wd : Nat) : Int) = (W : Int) := by
    have h := hK.lo
    rw [Int.one_mul, Int.toNat_natCast]
    have : ((2 ^ wd : Nat) : Int) = 2 ^ wd := by rw [Int.natCast_pow]; rfl
    omega
  dsimp only
  rw [e]
  exact q
def sp_shifted (C : Addr) : Sp := fun vs H Q _ => ∃ (a : Addr) (wd W n : Nat), vs = [.ref a, .int n] ∧ CheckAt C H a wd W ∧ n < 2 ^ wd ∧ Q (.int (sh wd W n)) H
theorem G_shifted (T : Top K mg) : FnOk P w K mg base CX0 2 T.f_shifted T.fd_shifted ["check", "one"] (sp_shifted T.C_Check) := by
  refine T.F_shifted.ok sc_shifted (fun vs H Q E h => by obtain ⟨a, wd, W, n, rfl, _⟩ := h; rfl) (fun cdv A outer s H vs Q E hr h => ?_)
  obtain ⟨a, wd, W, n, rfl, hC, hn, q⟩ := h
  refine ⟨_, PSs.nox (pss_one (ps_ret (pe_ifExp (pt_cmpR op_eq (pe_op op_shr (pe_op op_mul (pv 1) pe_int) (pe_fld (pv 0) rfl)) pe_int (nomark _)) (pe_op op_xor (pe_op op_mul (pv 1) pe_int) (pe_call (G_sum_of (P := P) T) (hr.mono (by decide)) (by rfl) T.g_sum_of T.F_sum_of.kp T.b_sum_of .nil pass0 (pa_cons (pv 0) pa_nil))) (pe_op op_mul (pv 1) pe_int)))), ?_⟩
  obtain ⟨hK, hw, dx, ha⟩ := id hC
  have h17 := pow17 hw
  have e2 : (n : Int) * 2 = ((2 * n : Nat) : Int) := by omega
  refine ⟨_, rfl, _, _, rfl, rfl, .inl ⟨by omega, by omega⟩, _, rfl, a, T.C_Check, dx, _, _, rfl, ha, T.cl_Check, T.na_Check_size, rfl, _, _, rfl, rfl, by omega, rfl, _, rfl, ?_⟩
  unfold sh red at q
  have ed : (n : Int) * 2 / 2 ^ ((wd : Int)).toNat = (((2 * n) >>> wd : Nat) : Int) := by rw [e2, shrI]
  by_cases c1 : (2 * n) >>> wd = 1
  · refine iteET (ed.trans (by rw [c1]; rfl)) ?_
    rw [if_pos c1] at q
    refine ⟨_, rfl, _, _, rfl, rfl, .inl ⟨by omega, by omega⟩, _, rfl, a, wd, W, rfl, hC, _, _, rfl, rfl, ?_⟩
    dsimp only
    rw [e2, bx]
    exact q
  · refine iteEF (fun z => c1 (by have z2 := ed.symm.trans z; omega)) ?_
    rw [if_neg c1] at q
    refine ⟨_, rfl, _, _, rfl, rfl, .inl ⟨by omega, by omega⟩, ?_⟩
    dsimp only
    rw [e2]
    exact q
theorem restB_take {wd W : Nat} {bs : List Bool} {i : Nat} {b : Bool} (h : bs[i]? = some b) : restB wd W (bs.take (i + 1)) = red wd W (2 * restB wd W (bs.take i) + b.toNat) := by
  rw [List.take_add_one, h]
  exact restB_snoc _ _
theorem bool_int (b : Bool) : (if b = true then (1 : Int) else 0) = ((b.toNat : Nat) : Int) := by cases b <;> rfl
def sp_rest_of (C : Addr) : Sp := fun vs H Q _ => ∃ (a : Addr) (wd W : Nat) (bs : List Bool), vs = [.ref a, .str (bS bs)] ∧ CheckAt C H a wd W ∧ Q (.int (restB wd W bs)) H
theorem G_rest_of (T : Top K mg) : FnOk P w K mg base CX0 2 T.f_rest_of T.fd_rest_of ["check", "bits"] (sp_rest_of T.C_Check) := by
  refine T.F_rest_of.ok sc_rest_of (fun vs H Q E h => by obtain ⟨a, wd, W, bs, rfl, _⟩ := h; rfl) (fun cdv A outer s H vs Q E hr h => ?_)
  obtain ⟨a, wd, W, bs, rfl, hC, q⟩ := h
  refine ⟨_, PSs.nox (pss_cons (ps_set (i := 2) sc_rest_of.nd rfl (by first | exact Or.inl rfl | exact Or.inr rfl) pe_int)
  (pss_cons (ps_for PassesOwn.never rfl (pi_str (pv 1)) (pg_name (i := 3) sc_rest_of.nd rfl (by first | exact Or.inl rfl | exact Or.inr rfl))
    (pss_cons (ps_set (i := 2) sc_rest_of.nd rfl (by first | exact Or.inl rfl | exact Or.inr rfl) (pe_op op_add (pe_op op_mul (pv 2) pe_int) (pe_callTy call_int1 (by rfl) T.n_int (by decide +kernel) (pa_cons (pe_cmpR op_eq (pv 3) pe_str (nomark _)) pa_nil))))
  (pss_one (ps_if (pt_cmpR op_eq (pe_op op_shr (pv 2) (pe_fld (pv 0) rfl)) pe_int (nomark _))
    (pss_one (ps_set (i := 2) sc_rest_of.nd rfl (by first | exact Or.inl rfl | exact Or.inr rfl) (pe_op op_xor (pv 2) (pe_call (G_sum_of (P := P) T) (hr.mono (by decide)) (by rfl) T.g_sum_of T.F_sum_of.kp T.b_sum_of .nil pass0 (pa_cons (pv 0) pa_nil)))))
    pss_nil))))
  (pss_one (ps_ret (pv 2))))), ?_⟩
  obtain ⟨hK, hw, dx, ha⟩ := id hC
  have h17 := pow17 hw
  refine ⟨_, rfl, _, rfl, ?_⟩
  refine for_it walk_str (fun i σ H1 => ∃ v, σ = [some (.ref a), some (.str (bS bs)), some (.int (restB wd W (bs.take i))), v] ∧ H1 = H) ⟨none, rfl, rfl⟩ (fun _ _ _ _ _ => trivial) ?_ ?_
  · rintro i x σ H1 H2 hi ⟨v, rfl, rfl⟩ ⟨rfl, c, hc, rfl⟩
    obtain ⟨b, hb, ec⟩ := bS_at hc
    rw [ec]
    have hlt := restB_eq (w := wd) (W := W) (bs.take i)
    have hl2 := rem_lt hK (numB (bs.take i))
    rw [← hlt] at hl2
    generalize er : restB wd W (bs.take i) = r at hl2
    refine ⟨_, rfl, _, _, rfl, rfl, .inl ⟨by omega, by omega⟩, _, rfl, rfl, .inr ⟨_, rfl, _, _, rfl, rfl, ?_⟩⟩
    dsimp only
    rw [one_sign, bool_int]
    have e2 : (r : Int) * 2 + ((b.toNat : Nat) : Int) = ((2 * r + b.toNat : Nat) : Int) := by omega
    rw [e2]
    have en := restB_take (wd := wd) (W := W) hb
    rw [er] at en
    unfold red at en
    refine ⟨_, rfl, _, rfl, a, T.C_Check, dx, _, _, rfl, ha, T.cl_Check, T.na_Check_size, rfl, _, _, rfl, rfl, by omega, rfl, _, rfl, ?_⟩
    have ed := shrI (2 * r + b.toNat) wd
    by_cases c1 : (2 * r + b.toNat) >>> wd = 1
    · refine iteET (ed.trans (by rw [c1]; rfl)) ?_
      rw [if_pos c1] at en
      refine ⟨_, rfl, _, rfl, a, wd, W, rfl, hC, _, _, rfl, rfl, ?_⟩
      dsimp only
      rw [bx, ← en]
      exact ⟨_, rfl, rfl⟩
    · refine iteEF (fun z => c1 (by have z2 := ed.symm.trans z; omega)) ?_
      rw [if_neg c1] at en
      rw [← en]
      exact ⟨_, rfl, rfl⟩
  · rintro σ H1 ⟨v, rfl, rfl⟩
    rw [bS_size, List.take_length]
    exact ⟨_, rfl, q⟩

def sp_rest_times (C : Addr) : Sp := fun vs H Q _ => ∃ (a : Addr) (wd W m n : Nat), vs = [.ref a, .int m, .int n] ∧ CheckAt C H a wd W ∧ m < 2 ^ wd ∧ n < 2 ^ wd ∧ Q (.int (mulR wd W m n)) H
theorem G_rest_times (T : Top K mg) : FnOk P w K mg base CX0 3 T.f_rest_times T.fd_rest_times ["check", "one", "other"] (sp_rest_times T.C_Check) := by
  refine T.F_rest_times.ok sc_rest_times (fun vs H Q E h => by obtain ⟨a, wd, W, m, n, rfl, _⟩ := h; rfl) (fun cdv A outer s H vs Q E hr h => ?_)
  obtain ⟨a, wd, W, m, n, rfl, hC, hm, hn, q⟩ := h
  refine ⟨_, PSs.nox (pss_cons (ps_set (i := 3) sc_rest_times.nd rfl (by first | exact Or.inl rfl | exact Or.inr rfl) pe_int)
  (pss_cons (ps_for PassesOwn.never rfl (pi_range3 (by rfl) T.n_range (pa_cons (pe_op op_sub (pe_fld (pv 0) rfl) pe_int) (pa_cons (pe_un un_neg pe_int) (pa_cons (pe_un un_neg pe_int) pa_nil)))) (pg_name (i := 4) sc_rest_times.nd rfl (by first | exact Or.inl rfl | exact Or.inr rfl))
    (pss_cons (ps_set (i := 3) sc_rest_times.nd rfl (by first | exact Or.inl rfl | exact Or.inr rfl) (pe_call (G_shifted (P := P) T) (hr.mono (by decide)) (by rfl) T.g_shifted T.F_shifted.kp T.b_shifted .nil pass0 (pa_cons (pv 0) (pa_cons (pv 3) pa_nil))))
  (pss_one (ps_if (pt_cmpR op_eq (pe_op op_and (pe_op op_shr (pv 2) (pv 4)) pe_int) pe_int (nomark _))
    (pss_one (ps_set (i := 3) sc_rest_times.nd rfl (by first | exact Or.inl rfl | exact Or.inr rfl) (pe_op op_xor (pv 3) (pv 1))))
    pss_nil))))
  (pss_one (ps_ret (pv 3))))), ?_⟩
  obtain ⟨hK, hw, dx, ha⟩ := id hC
  refine ⟨_, rfl, a, T.C_Check, dx, _, _, rfl, ha, T.cl_Check, T.na_Check_size, rfl, _, _, rfl, rfl, _, rfl, _, rfl, _, _, _, _, rfl, RgC.neg (by omega) (by omega) (by omega) (by omega), ?_⟩
  have en : ((wd : Int) - 1 - -1).toNat = wd := by omega
  refine for_it (n := wd) (Walk.mono (walk_rangeC (lo := (wd : Int) - 1) (c := -1) (n := ((wd : Int) - 1 - -1).toNat)) (fun _ _ => trivial) (fun _ _ _ _ _ _ y => y) |> fun h => by rw [en] at h; rw [en]; exact h) (fun i σ H1 => ∃ v4, σ = [some (.ref a), some (.int m), some (.int n), some (.int (mulR wd W m (n >>> (wd - i)))), v4] ∧ H1 = H) ⟨none, ?_, rfl⟩ (fun _ _ _ _ _ => trivial) ?_ ?_
  · have : n >>> wd = 0 := by rw [Nat.shiftRight_eq_div_pow]; exact Nat.div_eq_of_lt hn
    rw [Nat.sub_zero, this]
    unfold mulR
    rw [prod_zero, rem_zero]
    rfl
  · rintro i x σ H1 H2 hi ⟨v4, rfl, rfl⟩ ⟨rfl, rfl⟩
    walk_at "b"
    have ep : (wd : Int) - 1 + (i : Int) * -1 = ((wd - 1 - i : Nat) : Int) := by omega
    rw [ep]
    have hlt := mulR_lt hK m (n >>> (wd - i))
    refine ⟨_, rfl, _, rfl, a, wd, W, _, rfl, hC, hlt, ?_⟩
    have es : n >>> (wd - i) = n >>> (wd - 1 - i) / 2 := by rw [← shr_half, show wd - 1 - i + 1 = wd - i by omega]
    have st := mulR_step hK m (n >>> (wd - 1 - i)) hm
    rw [← es] at st
    have eb : Builtin.bitAnd ((n : Int) / 2 ^ (((wd - 1 - i : Nat) : Int)).toNat) 1 = (((n >>> (wd - 1 - i)) % 2 : Nat) : Int) := by rw [shrI, and1]
    refine ⟨_, rfl, _, rfl, _, _, rfl, rfl, by omega, _, _, rfl, rfl, rfl, _, rfl, ?_⟩
    by_cases c : n >>> (wd - 1 - i) % 2 = 1
    · refine iteET (eb.trans (by rw [c]; rfl)) ?_
      rw [if_pos c] at st
      refine ⟨_, rfl, _, rfl, _, _, rfl, rfl, ?_⟩
      dsimp only
      rw [bx, ← st, show wd - 1 - i = wd - (i + 1) by omega]
      exact ⟨_, rfl, rfl⟩
    · refine iteEF (fun z => c (by have z2 := eb.symm.trans z; omega)) ?_
      rw [if_neg c, Nat.xor_zero] at st
      rw [← st, show wd - 1 - i = wd - (i + 1) by omega]
      exact ⟨_, rfl, rfl⟩
  · rintro σ H1 ⟨v4, rfl, rfl⟩
    rw [Nat.sub_self, Nat.shiftRight_zero]
    exact ⟨_, rfl, q⟩
def sp_power_of (C : Addr) : Sp := fun vs H Q _ => ∃ (a : Addr) (wd W n : Nat), vs = [.ref a, .int n] ∧ CheckAt C H a wd W ∧ Q (.int (pw wd W n)) H
theorem G_power_of (T : Top K mg) : FnOk P w K mg base CX0 4 T.f_power_of T.fd_power_of ["check", "many"] (sp_power_of T.C_Check) := by
  refine T.F_power_of.ok sc_power_of (fun vs H Q E h => by obtain ⟨a, wd, W, n, rfl, _⟩ := h; rfl) (fun cdv A outer s H vs Q E hr h => ?_)
  obtain ⟨a, wd, W, n, rfl, hC, q⟩ := h
  refine ⟨_, PSs.nox (pss_cons (ps_par3 (by rfl) sc_power_of.nd (i := 2) (j := 3) (l := 4) rfl rfl rfl (by decide) (by decide) (by decide) rfl rfl rfl (pa_cons pe_int (pa_cons (pe_call (G_rest_of (P := P) T) (hr.mono (by decide)) (by rfl) T.g_rest_of T.F_rest_of.kp T.b_rest_of .nil pass0 (pa_cons (pv 0) (pa_cons pe_str pa_nil))) (pa_cons (pv 1) pa_nil))) (by rfl))
  (pss_cons (ps_while PassesOwn.never (pt_cmpR op_gt (pv 4) pe_int (nomark _))
    (pss_cons (ps_if (pt_cmpR op_eq (pe_op op_mod (pv 4) pe_int) pe_int (nomark _))
    (pss_one (ps_set (i := 2) sc_power_of.nd rfl (by first | exact Or.inl rfl | exact Or.inr rfl) (pe_call (G_rest_times (P := P) T) (hr.mono (by decide)) (by rfl) T.g_rest_times T.F_rest_times.kp T.b_rest_times .nil pass0 (pa_cons (pv 0) (pa_cons (pv 2) (pa_cons (pv 3) pa_nil))))))
    pss_nil)
  (pss_cons (ps_set (i := 3) sc_power_of.nd rfl (by first | exact Or.inl rfl | exact Or.inr rfl) (pe_call (G_rest_times (P := P) T) (hr.mono (by decide)) (by rfl) T.g_rest_times T.F_rest_times.kp T.b_rest_times .nil pass0 (pa_cons (pv 0) (pa_cons (pv 3) (pa_cons (pv 3) pa_nil)))))
  (pss_one (ps_set (i := 4) sc_power_of.nd rfl (by first | exact Or.inl rfl | exact Or.inr rfl) (pe_op op_fdivW (pv 4) pe_int))))))
  (pss_one (ps_ret (pv 2))))), ?_⟩
  obtain ⟨hK, hw, dx, ha⟩ := id hC
  have e10 : (("10" : String) : Str) = bS [true, false] := by decide +kernel
  refine ⟨_, rfl, a, wd, W, [true, false], by rw [← e10]; rfl, hC, _, rfl, _, _, _, rfl, ?_⟩
  have e1 : restB wd W [true, false] = pw wd W 1 := by rw [restB_eq]; rfl
  rw [e1]
  refine ⟨fun m σ H1 => ∃ (f k l : Nat), σ = [some (.ref a), some (.int n), some (.int (pw wd W f)), some (.int (pw wd W k)), some (.int l)] ∧ H1 = H ∧ m = l ∧ f + k * l = n, ⟨n, 0, 1, n, by rw [pw_zero hK]; rfl, rfl, rfl, by omega⟩, ?_⟩
  rintro m σ H1 ⟨f, k, l, rfl, rfl, hml, hn⟩
  refine ⟨_, rfl, _, _, rfl, rfl, _, rfl, ?_⟩
  by_cases c : 0 < l
  · refine iteDT (by omega) ?_
    refine ⟨fun σ' H' => ∃ (f' k' l' : Nat), σ' = [some (.ref a), some (.int n), some (.int (pw wd W f')), some (.int (pw wd W k')), some (.int l')] ∧ H' = H1 ∧ l' < l ∧ f' + k' * l' = n, fun σ' H' ⟨f', k', l', e1, e2, e3, e4⟩ => ⟨l', by omega, f', k', l', e1, e2, rfl, e4⟩, ?_⟩
    refine ⟨_, rfl, _, _, rfl, rfl, (by show (0 : Int) < 2; decide), rfl, _, rfl, ?_⟩
    have hk := pw_lt hK k
    have hf := pw_lt hK f
    have hd := Nat.div_add_mod l 2
    refine joinS (fun σ' H' => ∃ f' : Nat, σ' = [some (.ref a), some (.int n), some (.int (pw wd W f')), some (.int (pw wd W k)), some (.int l)] ∧ H' = H1 ∧ f' + 2 * k * (l / 2) = n) (fun σ' H' h => ?_) (fun cc cont => ?_) (fun cc => ?_)
    · obtain ⟨f', rfl, rfl, hf'⟩ := h
      refine ⟨_, rfl, _, rfl, _, rfl, a, wd, W, _, _, rfl, hC, hk, hk, ?_⟩
      rw [pw_mul hK]
      refine ⟨_, rfl, _, _, rfl, rfl, wide_div (b := 60) (by decide) (by decide) (by decide) (by decide), ?_⟩
      have e2 : (l : Int) / 2 = ((l / 2 : Nat) : Int) := by omega
      dsimp only
      rw [e2]
      exact ⟨f', k + k, l / 2, rfl, rfl, by omega, by rw [← hf', show 2 * k = k + k by omega]⟩
    · have c1 : l % 2 = 1 := by
        have := V.int.inj (of_decide_eq_true cc)
        omega
      refine ⟨_, rfl, _, rfl, _, rfl, a, wd, W, _, _, rfl, hC, hf, hk, ?_⟩
      rw [pw_mul hK]
      refine cont _ _ ⟨f + k, rfl, rfl, ?_⟩
      have : k * l = k * (2 * (l / 2)) + k * 1 := by rw [← Nat.mul_add]; congr 1; omega
      rw [← hn, this, Nat.mul_one, show 2 * k * (l / 2) = k * (2 * (l / 2)) by rw [Nat.mul_comm 2 k, Nat.mul_assoc]]
      omega
    · have c1 : l % 2 = 0 := by
        have := of_decide_eq_false cc
        have h3 : ¬ ((l : Int) % 2 = 1) := fun z => this (by show V.int ((l : Int) % 2) = V.int 1; rw [z])
        omega
      refine ⟨f, rfl, rfl, ?_⟩
      have : k * l = k * (2 * (l / 2)) := by congr 1; omega
      rw [← hn, this, show 2 * k * (l / 2) = k * (2 * (l / 2)) by rw [Nat.mul_comm 2 k, Nat.mul_assoc]]
  · refine iteDF (by omega) ?_
    have : l = 0 := by omega
    subst this
    rw [← hn, Nat.mul_zero, Nat.add_zero] at q
    exact ⟨_, rfl, q⟩
def sp_sum_at (C : Addr) (K : PySem.W.Frag) : Sp := fun vs H Q _ => ∃ (a b : Addr) (wd W : Nat) (ts : List Nat), vs = [.ref a, .ref b] ∧ CheckAt C H a wd W ∧ SqL K H b ((natI ts).map V.int) ∧ Q (.int (valP wd W ts)) H
theorem valP_take {wd W : Nat} {ts : List Nat} {i t : Nat} (h : ts[i]? = some t) : valP wd W (ts.take (i + 1)) = valP wd W (ts.take i) ^^^ pw wd W t := by
  rw [List.take_add_one, h]
  unfold valP
  rw [List.foldl_append]
  rfl
theorem G_sum_at (T : Top K mg) : FnOk P w K mg base CX0 5 T.f_sum_at T.fd_sum_at ["check", "places"] (sp_sum_at T.C_Check K) := by
  refine T.F_sum_at.ok sc_sum_at (fun vs H Q E h => by obtain ⟨a, b, wd, W, ts, rfl, _⟩ := h; rfl) (fun cdv A outer s H vs Q E hr h => ?_)
  obtain ⟨a, b, wd, W, ts, rfl, hC, hB, q⟩ := h
  refine ⟨_, PSs.nox (pss_cons (ps_set (i := 2) sc_sum_at.nd rfl (by first | exact Or.inl rfl | exact Or.inr rfl) pe_int)
  (pss_cons (ps_for PassesOwn.never rfl (k_piL K rfl (pv 1)) (pg_name (i := 3) sc_sum_at.nd rfl (by first | exact Or.inl rfl | exact Or.inr rfl))
    (pss_one (ps_set (i := 2) sc_sum_at.nd rfl (by first | exact Or.inl rfl | exact Or.inr rfl) (pe_op op_xor (pv 2) (pe_call (G_power_of (P := P) T) (hr.mono (by decide)) (by rfl) T.g_power_of T.F_power_of.kp T.b_power_of .nil pass0 (pa_cons (pv 0) (pa_cons (pv 3) pa_nil)))))))
  (pss_one (ps_ret (pv 2))))), ?_⟩
  refine ⟨_, rfl, b, rfl, ⟨_, hB⟩, for_list (K := K) (a := b) (xs := (natI ts).map V.int) (fun i σ H1 => ∃ v, σ = [some (.ref a), some (.ref b), some (.int (valP wd W (ts.take i))), v] ∧ H1 = H) ⟨none, rfl, rfl⟩ (fun i σ H1 _ ⟨_, _, e⟩ => by rw [e]; exact hB) ?_ ?_⟩
  · rintro i x σ H1 hx ⟨v, rfl, rfl⟩
    obtain ⟨t, ht, rfl⟩ := nat_at hx
    refine ⟨_, rfl, _, rfl, _, rfl, a, wd, W, t, rfl, hC, _, _, rfl, rfl, ?_⟩
    dsimp only
    rw [bx, ← valP_take ht]
    exact ⟨_, rfl, rfl⟩
  · rintro σ H1 ⟨v, rfl, rfl⟩
    rw [nat_len, List.take_length]
    exact ⟨_, rfl, q⟩
theorem dec_nat (n m : Nat) : decide (V.int ((n : Nat) : Int) = V.int ((m : Nat) : Int)) = decide (n = m) := by
  by_cases h : n = m
  · rw [decide_eq_true h, decide_eq_true (by rw [h])]
  · rw [decide_eq_false h, decide_eq_false (fun z => h (by have := V.int.inj z; omega))]

def sp_ones_in : Sp := fun vs H Q _ => ∃ n : Nat, vs = [.int n] ∧ n < 2 ^ 1000 ∧ ∀ H' p, Same H H' → H p = none → H' p = some (.lst ((natI (onesN n (Builtin.Int.intBits (n : Int)))).map V.int)) → Q (.ref p) H'
theorem G_ones_in (T : Top K mg) : FnOk P w K mg base CX0 1 T.f_ones_in T.fd_ones_in ["number"] sp_ones_in := by
  refine T.F_ones_in.ok sc_ones_in (fun vs H Q E h => by obtain ⟨n, rfl, _⟩ := h; rfl) (fun cdv A outer s H vs Q E hr h => ?_)
  obtain ⟨n, rfl, hn, q⟩ := h
  refine ⟨_, PSs.nox (pss_one (ps_ret (pe_lc (own := [("place", 1)]) (g := gName 1) (by rfl) sc_ones_in.nd (pi_range1 (by rfl) T.n_range (pa_cons (pe_bits (pv 0)) pa_nil)) (blkOk_by (own := [("place", 1)]) (N := N_ones_in) (sc := defScope s_ones_in) (by decide +kernel)) (fun _ _ _ _ _ => (pg_name (i := 1) sc_ones_in.nd rfl (by first | exact Or.inl rfl | exact Or.inr rfl))) (fun _ _ _ _ _ => (pts_one (pt_cmpR op_eq (pe_op op_and (pe_op op_shr (pv 0) (pv 1)) pe_int) pe_int (nomark _)))) (fun _ _ _ _ _ => (pv 1))))), ?_⟩
  have hb : Builtin.Int.intBits (n : Int) ≤ 1000 := bl_iff.mpr hn
  obtain ⟨k, ek⟩ : ∃ k, Builtin.Int.intBits (n : Int) = k := ⟨_, rfl⟩
  rw [ek] at hb q
  refine ⟨_, rfl, _, rfl, _, rfl, by rw [ek]; omega, by rw [ek]; omega, fun D nD => ?_⟩
  rw [ek]
  refine lc_selR (lo := 0) (n := ((k : Int)).toNat) ((List.range k).map fun i => if n.testBit i = true then some (V.int (i : Int)) else none) nD (by rw [List.length_map, List.length_range]; rfl) (small1000' (by omega)) (fun x => rfl) ?_ ?_
  · intro i o H' hi ho s Qt qt
    rw [Int.toNat_natCast] at hi
    rw [List.getElem?_map, List.getElem?_range hi] at ho
    cases ho
    rw [show (0 + (i : Int)) = (i : Int) by omega]
    have eb := bit_int n i
    refine ⟨_, rfl, _, rfl, _, _, rfl, rfl, by omega, _, _, rfl, rfl, rfl, _, rfl, ?_⟩
    by_cases c : n.testBit i = true
    · refine iteET (eb.trans (by rw [c]; rfl)) ?_
      have z := qt H' (Same.refl _)
      dsimp only at z
      rw [if_pos c] at z
      exact ⟨_, rfl, z⟩
    · refine iteEF (fun z => c (by have z2 := eb.symm.trans z; cases h : n.testBit i <;> first | rfl | (rw [h] at z2; simp at z2))) ?_
      have z := qt H' (Same.refl _)
      dsimp only at z
      rw [if_neg c] at z
      exact z
  · intro H' s hD
    rw [ones_sel] at hD
    exact q _ D s nD hD

def sp_law_drawn : Sp := fun vs H Q _ => ∃ (g : Addr) (n wd : Nat), vs = [.ref g, .int wd] ∧ GenAt H g n ∧ n ≤ 10 ^ 12 ∧ 1 ≤ wd ∧ wd ≤ 16 ∧ ∀ (l : Nat) H', l < 2 ^ wd → l % 2 = 1 → GenAt H' g (n + 100) → But g H H' → Q (.int l) H'
theorem G_law_drawn (T : Top K mg) : FnOk P w K mg base CX0 3 T.f_law_drawn T.fd_law_drawn ["_law_generator_here", "_law_width"] sp_law_drawn := by
  refine T.F_law_drawn.ok sc_law_drawn (fun vs H Q E h => by obtain ⟨g, n, wd, rfl, _⟩ := h; rfl) (fun cdv A outer s H vs Q E hr h => ?_)
  obtain ⟨g, n, wd, rfl, hg, hn, h1, h2, q⟩ := h
  refine ⟨_, PSs.nox (pss_one (ps_ret (pe_op op_add pe_int (pe_op op_mul pe_int (pe_call (G_law_random (P := P) T) (hr.mono (by decide)) (by rfl) T.g_law_random T.F_law_random.kp T.b_law_random .nil pass0 (pa_cons (pv 0) (pa_cons (pe_op op_shl pe_int (pe_op op_sub (pv 1) pe_int)) pa_nil))))))), ?_⟩
  have e2 : 2 ^ wd = 2 ^ (wd - 1) * 2 := by
    rw [← Nat.pow_succ, show (wd - 1).succ = wd by omega]
  have h17 := pow17 (w := wd) h2
  have eb : (1 : Int) * 2 ^ ((wd : Int) - 1).toNat = ((2 ^ (wd - 1) : Nat) : Int) := by
    rw [Int.one_mul, show ((wd : Int) - 1).toNat = wd - 1 by omega, Int.natCast_pow]
    rfl
  have hp : 0 < 2 ^ (wd - 1) := Nat.pow_pos (by omega)
  refine ⟨_, rfl, _, rfl, _, _, rfl, rfl, _, _, rfl, rfl, ⟨by omega, by omega, by decide⟩, g, _, n, rfl, hg, hn, ?_, ?_, ?_⟩
  · omega
  · omega
  · intro d H1 d0 d1 hg1 b1
    refine ⟨_, _, rfl, rfl, .inl ⟨by decide, by decide⟩, _, _, rfl, rfl, ?_⟩
    have e3 : 1 + 2 * d = ((1 + 2 * d.toNat : Nat) : Int) := by omega
    dsimp only
    rw [e3]
    exact q _ _ (by omega) (by omega) hg1 b1

end
end My

namespace My
open PySem PySem.Spec PyProof.Rows L2 Pre
/-! ### places, good or bad -/
def Btw (ns : List Int) : Prop := ∀ n ∈ ns, 0 ≤ n ∧ n ≤ 10 ^ 18
/-- what is no list of places -/
def BadP (K : PySem.W.Frag) (H : Hp) (v : V) : Prop :=
  (∃ T : String, TyX K H v (.type T) ∧ kitB T "list" = some false) ∨
  (∃ (a : Addr) (xs : List V) (bs : List Bool), v = .ref a ∧ H a = some (.lst xs) ∧ xs.length ≤ 1000 ∧ bs.length = xs.length ∧ (∀ (i : Nat) (x : V) (b : Bool), xs[i]? = some x → bs[i]? = some b → NumV K H x 0 (some 1000000000000000000) b) ∧ bs.all id = false) ∨
  (∃ (a : Addr) (ns : List Int), v = .ref a ∧ H a = some (.lst (ns.map V.int)) ∧ ns.length ≤ 1000 ∧ Btw ns ∧ ¬ ns.Pairwise (· < ·))
theorem BadP.same {K : PySem.W.Frag} {H H' : Hp} {v : V} (s : Same H H') (h : BadP K H v) : BadP K H' v := by
  rcases h with ⟨T, ty, e⟩ | ⟨a, xs, bs, e, h1, h2, h3, h4, h5⟩ | ⟨a, ns, e, h1, h2⟩
  · exact .inl ⟨T, ty.same s, e⟩
  · exact .inr (.inl ⟨a, xs, bs, e, s _ _ h1, h2, h3, fun i x b hx hb => (h4 i x b hx hb).same s, h5⟩)
  · exact .inr (.inr ⟨a, ns, e, s _ _ h1, h2⟩)
theorem rise_pairs {ns : List Int} : ((List.range (ns.length - 1)).map fun i => decide (ns.getD i 0 < ns.getD (i + 1) 0)).all id = true ↔ ns.Pairwise (· < ·) := by
  rw [List.all_eq_true]
  constructor
  · intro h
    have key : ∀ j i, i < j → j < ns.length → ns.getD i 0 < ns.getD j 0 := by
      intro j
      induction j with
      | zero => intro i hi; omega
      | succ j ih =>
        intro i hi hj
        have h1 : ns.getD j 0 < ns.getD (j + 1) 0 := of_decide_eq_true (h _ (List.mem_map.mpr ⟨j, List.mem_range.mpr (by omega), rfl⟩))
        by_cases e : i = j
        · rw [e]; exact h1
        · exact Int.lt_trans (ih i (by omega) (by omega)) h1
    refine List.pairwise_iff_getElem.mpr fun i j hi hj hij => ?_
    have := key j i hij hj
    rwa [List.getD_eq_getElem?_getD, List.getD_eq_getElem?_getD, List.getElem?_eq_getElem hi, List.getElem?_eq_getElem hj] at this
  · intro h b hb
    obtain ⟨i, hi, rfl⟩ := List.mem_map.mp hb
    have hi := List.mem_range.mp hi
    have := List.pairwise_iff_getElem.mp h i (i + 1) (by omega) (by omega) (by omega)
    refine decide_eq_true ?_
    rw [List.getD_eq_getElem?_getD, List.getD_eq_getElem?_getD, List.getElem?_eq_getElem (by omega), List.getElem?_eq_getElem (by omega)]
    exact this
theorem natI_rise {ts : List Nat} : (natI ts).Pairwise (· < ·) ↔ ts.Pairwise (· < ·) := by
  unfold natI
  rw [List.pairwise_map]
  constructor <;> exact fun h => h.imp fun h => by omega
theorem natI_btw {ts : List Nat} (h : ∀ t ∈ ts, t ≤ 10 ^ 18) : Btw (natI ts) := fun n hn => by
  obtain ⟨t, ht, rfl⟩ := List.mem_map.mp hn
  have := h t ht
  omega
local macro_rules | `(tactic| walk_at "go") => `(tactic| repeat (first | (with_reducible first | refine iteT ?_ | refine iteF ?_ | refine iteNtt ?_ | refine iteNff ?_ | refine iteET (by omega) ?_ | refine iteEF (by omega) ?_ | refine iteENT (by omega) ?_ | refine iteENF (by omega) ?_ | refine iteDT (by omega) ?_ | refine iteDF (by omega) ?_ | refine iteNT (by omega) ?_ | refine iteNF (by omega) ?_) | refine ⟨_, rfl, ?_⟩ | refine ⟨_, _, rfl, rfl, ?_⟩ | refine ⟨_, _, rfl, ?_⟩ | refine ⟨rfl, ?_⟩ | refine .inl ⟨_, rfl, ?_⟩ | refine .inr ⟨_, rfl, ?_⟩))
local macro_rules | `(tactic| walk_at "b") => `(tactic| try dsimp (config := { proj := false, iota := false, eta := false, zeta := false }) only)
section
variable {P : Program} {w : World} {K : PySem.W.Frag} {mg : Str → Option Value} {base : Heap} [pf : Sup.PF P fileS]
def sp_are_places (K : PySem.W.Frag) : Sp := fun vs H Q _ => ∃ v : V, vs = [v] ∧ ((∃ (a : Addr) (ns : List Int), v = .ref a ∧ H a = some (.lst (ns.map V.int)) ∧ ns.length ≤ 1000 ∧ Btw ns ∧ ∀ (H' : Hp) (c : Bool), Same H H' → (c = true ↔ ns.Pairwise (· < ·)) → Q (.bl c) H') ∨ (BadP K H v ∧ ∀ H', Same H H' → Q (.bl false) H'))
theorem G_are_places (T : Top K mg) : FnOk P w K mg base CX0 3 T.f_are_places T.fd_are_places ["value"] (sp_are_places K) := by
  refine T.F_are_places.ok sc_are_places (fun vs H Q E h => by obtain ⟨v, rfl, _⟩ := h; rfl) (fun cdv A outer s H vs Q E hr h => ?_)
  obtain ⟨v, rfl, h⟩ := h
  refine ⟨_, PSs.nox (pss_cons (ps_if (PW.pt (pw_or (pt_not (pt_val (pe_callB (k_isi K rfl) (by rfl) T.n_isinstance (by decide +kernel) (pa_cons (pv 0) (pa_cons (pe_bltn (v := .ty "list") (by rfl) T.n_list (by decide +kernel) rfl) pa_nil))))) (pw_or1 (pt_not (pt_val (pe_callB (k_all K rfl rfl) (by rfl) T.n_all (by decide +kernel) (pa_cons (pe_lc (own := [("place", 3)]) (g := gName 3) (tt := tYes) (by rfl) sc_are_places.nd (k_piL K rfl (pv 0)) (blkOk_by (own := [("place", 3)]) (N := N_are_places) (sc := defScope s_are_places) (by decide +kernel)) (fun _ _ _ _ _ => (pg_name (i := 3) sc_are_places.nd rfl (by first | exact Or.inl rfl | exact Or.inr rfl))) (fun _ _ _ _ _ => pts_nil) (fun _ _ _ _ _ => (pe_call (G_is_between (P := P) T) (hr.mono (by decide)) (by rfl) T.g_is_between T.F_is_between.kp T.b_is_between .nil pass0 (pa_cons (pv 3) (pa_cons pe_int (pa_cons (pe_glob (v := .int 1000000000000000000) rfl T.m_MOST_PLACE ⟨_, rfl⟩) pa_nil)))))) pa_nil)))))))
    (pss_one (ps_ret pe_bl))
    pss_nil)
  (pss_one (ps_ret (pe_callB (k_all K rfl rfl) (by rfl) T.n_all (by decide +kernel) (pa_cons (pe_lc (own := [("one", 1), ("other", 2)]) (g := gTup K 2 (gCons (gName 1) (gCons (gName 2) (gNil)))) (tt := tYes) (by rfl) sc_are_places.nd (pi_zip (by rfl) T.n_zip (pa_cons (pv 0) (pa_cons (pe_slice (k_slL K rfl) (pv 0) (po_some pe_int) po_none) pa_nil))) (blkOk_by (own := [("one", 1), ("other", 2)]) (N := N_are_places) (sc := defScope s_are_places) (by decide +kernel)) (fun _ _ _ _ _ => (k_pgT K rfl (by rfl) (pgs_cons (pg_name (i := 1) sc_are_places.nd rfl (by first | exact Or.inl rfl | exact Or.inr rfl)) (pgs_cons (pg_name (i := 2) sc_are_places.nd rfl (by first | exact Or.inl rfl | exact Or.inr rfl)) pgs_nil)))) (fun _ _ _ _ _ => pts_nil) (fun _ _ _ _ _ => (pe_cmpR op_lt (pv 1) (pv 2) (nomark _)))) pa_nil))))), ?_⟩
  have main : (∃ T : String, TyX K H v (.type T) ∧ kitB T "list" = some false ∧ Q (.bl false) H) ∨ ∃ (a : Addr) (xs : List V) (bs : List Bool), v = .ref a ∧ H a = some (.lst xs) ∧ xs.length ≤ 1000 ∧ bs.length = xs.length ∧ (∀ (i : Nat) (x : V) (b : Bool), xs[i]? = some x → bs[i]? = some b → NumV K H x 0 (some 1000000000000000000) b) ∧
      ((bs.all id = false ∧ ∀ H', Same H H' → Q (.bl false) H') ∨ (bs.all id = true ∧ ∃ ns : List Int, xs = ns.map V.int ∧ ∀ (H' : Hp) (c : Bool), Same H H' → (c = true ↔ ns.Pairwise (· < ·)) → Q (.bl c) H')) := by
    have ofInts : ∀ ns : List Int, Btw ns → ∀ (i : Nat) (x : V) (b : Bool), (ns.map V.int)[i]? = some x → (List.replicate ns.length true)[i]? = some b → NumV K H x 0 (some 1000000000000000000) b := fun ns h3 i x b hx hb => by
      obtain ⟨n, hn, rfl⟩ := int_at hx
      rw [List.getElem?_replicate] at hb
      split at hb
      · cases hb
        have := h3 n (List.mem_of_getElem? hn)
        exact num_ok this.1 (fun j h => by cases h; omega)
      · cases hb
    rcases h with ⟨a, ns, e, h1, h2, h3, q⟩ | ⟨⟨T, ty, e⟩ | ⟨a, xs, bs, e, h1, h2, h3, h4, h5⟩ | ⟨a, ns, e, h1, h2, h3, h4⟩, q⟩
    · exact .inr ⟨a, ns.map V.int, _, e, h1, by rw [List.length_map]; exact h2, by rw [List.length_map, List.length_replicate], ofInts ns h3, .inr ⟨all_true _, ns, rfl, q⟩⟩
    · exact .inl ⟨T, ty, e, q _ (Same.refl _)⟩
    · exact .inr ⟨a, xs, bs, e, h1, h2, h3, h4, .inl ⟨h5, q⟩⟩
    · refine .inr ⟨a, ns.map V.int, _, e, h1, by rw [List.length_map]; exact h2, by rw [List.length_map, List.length_replicate], ofInts ns h3, .inr ⟨all_true _, ns, rfl, fun H' c s hc => ?_⟩⟩
      cases c with
      | false => exact q H' s
      | true => exact absurd (hc.mp rfl) h4
  rcases main with ⟨T, ty, e, q⟩ | ⟨a, xs, bs, rfl, hA, hl, hbl, hnum, hend⟩
  · exact ⟨_, rfl, _, _, _, _, false, rfl, .ty _, ty, kit_ty e, false, rfl, iteT q⟩
  have hS : SqL K H a xs := .inl (.inl hA)
  refine ⟨_, rfl, _, _, _, _, true, rfl, .ty _, rd_listC (.inl hA), kit_ty (by decide +kernel), true, rfl, iteF ?_⟩
  refine ⟨_, rfl, a, rfl, ⟨_, hS⟩, fun D nD => ?_⟩
  refine lc_mapL (K := K) (xs := xs) (bs.map V.bl) nD hS (by rw [List.length_map, hbl]) (small1000' (by omega)) (fun x => rfl) ?_ ?_
  · intro i x y H' hx hy s Qt qt
    rw [List.getElem?_map] at hy
    obtain ⟨b, hb, rfl⟩ := Option.map_eq_some_iff.mp hy
    exact ⟨_, rfl, x, 0, some 1000000000000000000, b, rfl, (hnum i x b hx hb).same s, qt _ (Same.refl _)⟩
  · intro H1 s1 hD
    refine ⟨D, _, rfl, .inl (.inl hD), ?_⟩
    rcases hend with ⟨hf, q⟩ | ⟨hf, ns, rfl, q⟩
    · rw [hf]
      exact ⟨_, rfl, iteT (q _ s1)⟩
    rw [hf]
    refine ⟨_, rfl, iteF ?_⟩
    have hA1 := s1 _ _ hA
    refine ⟨_, rfl, _, rfl, _, rfl, a, _, rfl, .inl (.inl hA1), fun b nb => ?_⟩
    rw [show (1 : Int) = ((1 : Nat) : Int) from rfl, cut_drop, ← List.map_drop]
    obtain ⟨H2, e2, s2, h2⟩ := fresh (.lst ((ns.drop 1).map V.int)) nb
    rw [e2]
    have hA2 := s2 _ _ hA1
    refine ⟨a, b, _, _, rfl, .inl (.inl hA2), .inl (.inl h2), fun D2 nD2 => ?_⟩
    have hl2 : ((ns.drop 1).map V.int).length = ns.length - 1 := by rw [List.length_map, List.length_drop]
    rw [List.length_map] at hl
    refine lc_dW (walk_zip (K := K) (a := a) (b := b) (xs := ns.map V.int) (ys := (ns.drop 1).map V.int) (n := ns.length - 1) (by rw [List.length_map, hl2]; omega)) (Has.nil (H := H2)) ((List.range (ns.length - 1)).map fun i => some (PyData.bool (decide (ns.getD i 0 < ns.getD (i + 1) 0)))) nD2 (by rw [List.length_map, List.length_range]) (small1000' (by omega)) (fun H' s' => ⟨.inl (.inl (s' _ _ hA2)), .inl (.inl (s' _ _ h2))⟩) ?_ ?_
    · rintro i o H0 x H' hi ho s0 hS0 ⟨T1, x1, y1, rfl, nT, rfl, ex, ey⟩ Qt qt
      rw [List.getElem?_map, List.getElem?_range hi] at ho
      dsimp only at ex ey
      obtain ⟨t, ht, rfl⟩ := int_at ex
      rw [List.map_drop, List.getElem?_drop] at ey
      obtain ⟨u, hu, rfl⟩ := int_at ey
      have et : ns.getD i 0 = t := by rw [List.getD_eq_getElem?_getD, ht]; rfl
      have eu : ns.getD (i + 1) 0 = u := by rw [List.getD_eq_getElem?_getD, Nat.add_comm, hu]; rfl
      have ho' : some (PyData.bool (decide (ns.getD i 0 < ns.getD (i + 1) 0))) = o := Option.some.inj ho
      rw [et, eu] at ho'
      subst ho'
      refine ⟨T1, _, rfl, .inl (.inl upd_same), rfl, _, _, rfl, _, _, rfl, rfl, rfl, ?_⟩
      unfold tYes
      dsimp only
      rw [if_pos (show true = true from rfl)]
      refine ⟨_, rfl, _, rfl, _, _, rfl, rfl, ?_⟩
      dsimp only
      exact qt (some (.bl (decide (t < u)))) _ (same_upd nT) (.bl _)
    · intro H3 s3 hD3 hd
      rw [sel_map (List.range (ns.length - 1)) (fun i => PyData.bool (decide (ns.getD i 0 < ns.getD (i + 1) 0))), rs_nil] at hd
      obtain ⟨D', xs', e, hD', hx⟩ := hd.listE
      cases e
      have e2 : (List.range (ns.length - 1)).map (fun i => PyData.bool (decide (ns.getD i 0 < ns.getD (i + 1) 0))) = ((List.range (ns.length - 1)).map fun i => decide (ns.getD i 0 < ns.getD (i + 1) 0)).map PyData.bool := by rw [List.map_map]; rfl
      rw [e2] at hx
      rw [DtA.boolsE hx] at hD'
      refine ⟨D2, _, rfl, .inl (.inl hD'), ?_⟩
      exact q _ _ (s1.trans (s2.trans s3)) rise_pairs
def sp_check_places (K : PySem.W.Frag) (CE : Addr) : Sp := fun vs H Q E => ∃ v : V, vs = [v] ∧ ((∃ (a : Addr) (ts : List Nat), v = .ref a ∧ H a = some (.lst ((natI ts).map V.int)) ∧ Rising ts ∧ ∀ H', Same H H' → Q .non H') ∨ (BadP K H v ∧ EE H E CE v))
theorem G_check_places (T : Top K mg) : FnOk P w K mg base (L2.CX P w) 4 T.f_check_places T.fd_check_places ["places"] (sp_check_places K T.C_InvalidPlaces) := by
  refine T.F_check_places.ok (CX := L2.CX P w) sc_check_places (fun vs H Q E h => by obtain ⟨v, rfl, _⟩ := h; rfl) (fun cdv A outer s H vs Q E hr h => ?_)
  obtain ⟨v, rfl, h⟩ := h
  refine ⟨_, (pss_one (ps_if (pt_not (pt_val (pe_call (G_are_places (P := P) T) (hr.mono (by decide)) (by rfl) T.g_are_places T.F_are_places.kp T.b_are_places .nil pass0 (pa_cons (pv 0) pa_nil))))
    (pss_one (ps_raise rfl (takes_of rfl rfl rfl rfl) (pmk_oex T.er_InvalidPlaces.sup.T T.er_InvalidPlaces.ini T.er_InvalidPlaces.ity (G_InvalidPlaces___init__ (P := P) (CX := CX0) T) (hr.mono (by decide)) T.er_InvalidPlaces.bnd .nil pass0 (by rfl) T.gc_InvalidPlaces (pa_cons (pv 0) pa_nil))))
    pss_nil)), ?_⟩
  rcases h with ⟨a, ts, rfl, hA, hR, q⟩ | ⟨hb, q⟩
  · refine ⟨_, rfl, _, rfl, .inl ⟨a, _, rfl, hA, by have := hR.2.2; unfold natI; rw [List.length_map]; exact this, natI_btw hR.2.1, fun H1 c s1 hc => ?_⟩⟩
    obtain rfl : c = true := hc.mpr (natI_rise.mpr hR.1)
    exact ⟨_, rfl, iteF (q _ s1)⟩
  · exact ⟨_, rfl, v, rfl, .inr ⟨hb, fun H1 s1 => ⟨_, rfl, iteT ⟨_, rfl, mk_sup fun dd nd => q _ dd s1 nd⟩⟩⟩⟩
def sp_unseen (C : Addr) (K : PySem.W.Frag) : Sp := fun vs H Q _ => ∃ (a b : Addr) (wd W : Nat) (ts : List Nat), vs = [.ref a, .ref b] ∧ CheckAt C H a wd W ∧ H b = some (.lst ((natI ts).map V.int)) ∧ Rising ts ∧ ∀ H', Same H H' → Q (.bl (decide (valP wd W ts = 0))) H'
theorem G_unseen (T : Top K mg) : FnOk P w K mg base CX0 6 T.f_unseen T.fd_unseen ["check", "places"] (sp_unseen T.C_Check K) := by
  refine T.F_unseen.ok sc_unseen (fun vs H Q E h => by obtain ⟨a, b, wd, W, ts, rfl, _⟩ := h; rfl) (fun cdv A outer s H vs Q E hr h => ?_)
  obtain ⟨a, b, wd, W, ts, rfl, hC, hB, hR, q⟩ := h
  refine ⟨_, PSs.nox (pss_cons (ps_expr (pe_call (G_check_check (P := P) T) (hr.mono (by decide)) (by rfl) T.g_check_check T.F_check_check.kp T.b_check_check .nil passL (pa_cons (pv 0) pa_nil)))
  (pss_cons (ps_expr (pe_call (G_check_places (P := P) T) (hr.mono (by decide)) (by rfl) T.g_check_places T.F_check_places.kp T.b_check_places .nil passL (pa_cons (pv 1) pa_nil)))
  (pss_one (ps_ret (pe_cmpR op_eq (pe_call (G_sum_at (P := P) T) (hr.mono (by decide)) (by rfl) T.g_sum_at T.F_sum_at.kp T.b_sum_at .nil pass0 (pa_cons (pv 0) (pa_cons (pv 1) pa_nil))) pe_int (nomark _)))))), ?_⟩
  refine ⟨_, rfl, _, rfl, .inl ⟨a, wd, W, rfl, hC, ?_⟩⟩
  refine ⟨_, rfl, _, rfl, .inl ⟨b, ts, rfl, hB, hR, fun H1 s1 => ?_⟩⟩
  refine ⟨_, rfl, _, rfl, a, b, wd, W, ts, rfl, hC.same s1, .inl (.inl (s1 _ _ hB)), rfl, ?_⟩
  have e := dec_nat (valP wd W ts) 0
  have z := q _ s1
  rw [← e] at z
  exact z
def sp_shapes_of (C : Addr) : Sp := fun vs H Q _ => ∃ (a : Addr) (wd W s : Nat), vs = [.ref a, .int s] ∧ CheckAt C H a wd W ∧ s ≤ 1000 ∧ Q (.int (cntS wd s : Nat)) H
theorem G_shapes_of (T : Top K mg) : FnOk P w K mg base CX0 1 T.f_shapes_of T.fd_shapes_of ["check", "span"] (sp_shapes_of T.C_Check) := by
  refine T.F_shapes_of.ok sc_shapes_of (fun vs H Q E h => by obtain ⟨a, wd, W, s, rfl, _⟩ := h; rfl) (fun cdv A outer s H vs Q E hr h => ?_)
  obtain ⟨a, wd, W, s, rfl, hC, hs, q⟩ := h
  refine ⟨_, PSs.nox (pss_cons (ps_if (pt_cmpR op_gt (pv 1) (pe_fld (pv 0) rfl) (nomark _))
    (pss_one (ps_ret (pe_op op_shl pe_int (pe_op op_sub (pe_op op_sub (pv 1) (pe_fld (pv 0) rfl)) pe_int))))
    pss_nil)
  (pss_one (ps_ret (pe_callTy call_int1 (by rfl) T.n_int (by decide +kernel) (pa_cons (pe_cmpR op_eq (pv 1) (pe_fld (pv 0) rfl) (nomark _)) pa_nil))))), ?_⟩
  obtain ⟨hK, hw, dx, ha⟩ := id hC
  refine ⟨_, rfl, _, rfl, a, T.C_Check, dx, _, _, rfl, ha, T.cl_Check, T.na_Check_size, rfl, _, _, rfl, rfl, _, rfl, ?_⟩
  unfold cntS at q
  by_cases c : wd < s
  · rw [if_pos c] at q
    refine iteDT (by omega) ?_
    refine ⟨_, rfl, _, rfl, a, T.C_Check, dx, _, _, rfl, ha, T.cl_Check, T.na_Check_size, rfl, _, _, rfl, rfl, _, _, rfl, rfl, _, _, rfl, rfl, ⟨by omega, by omega, by decide⟩, ?_⟩
    have e : (1 : Int) * 2 ^ ((s : Int) - wd - 1).toNat = ((2 ^ (s - wd - 1) : Nat) : Int) := by
      rw [Int.one_mul, show ((s : Int) - wd - 1).toNat = s - wd - 1 by omega, Int.natCast_pow]
      rfl
    dsimp only
    rw [e]
    exact q
  · rw [if_neg c] at q
    refine iteDF (by omega) ?_
    refine ⟨_, rfl, _, rfl, a, T.C_Check, dx, _, _, rfl, ha, T.cl_Check, T.na_Check_size, rfl, rfl, .inr ⟨_, rfl, ?_⟩⟩
    rw [dec_nat]
    by_cases e : s = wd
    · rw [decide_eq_true e]
      rw [if_pos e] at q
      exact q
    · rw [decide_eq_false e]
      rw [if_neg e] at q
      exact q
def sp_how_many_shapes (K : PySem.W.Frag) (C CC CN : Addr) : Sp := fun vs H Q E => ∃ v u : V, vs = [v, u] ∧ ((NoC K H v ∧ EE H E CC v) ∨ ∃ (a : Addr) (wd W : Nat), v = .ref a ∧ CheckAt C H a wd W ∧
  ((NumV K H u 0 (some 1000) false ∧ EE H E CN u) ∨ ∃ s : Nat, u = .int s ∧ s ≤ 1000 ∧ Q (.int (cntS wd s : Nat)) H))
theorem G_how_many_shapes (T : Top K mg) : FnOk P w K mg base (L2.CX P w) 4 T.f_how_many_shapes T.fd_how_many_shapes ["check", "span"] (sp_how_many_shapes K T.C_Check T.C_InvalidCheck T.C_InvalidNumber) := by
  refine T.F_how_many_shapes.ok (CX := L2.CX P w) sc_how_many_shapes (fun vs H Q E h => by obtain ⟨v, u, rfl, _⟩ := h; rfl) (fun cdv A outer s H vs Q E hr h => ?_)
  obtain ⟨v, u, rfl, h⟩ := h
  refine ⟨_, (pss_cons (ps_expr (pe_call (G_check_check (P := P) T) (hr.mono (by decide)) (by rfl) T.g_check_check T.F_check_check.kp T.b_check_check .nil (passes_call (takes_of rfl rfl rfl rfl) (fun _ _ _ _ h => h)) (pa_cons (pv 0) pa_nil)))
  (pss_cons (ps_expr (pe_call (G_check_number (P := P) T) (hr.mono (by decide)) (by rfl) T.g_check_number T.F_check_number.kp T.b_check_number .nil (passes_call (takes_of rfl rfl rfl rfl) (fun _ _ _ _ h => h)) (pa_cons (pv 1) (pa_cons pe_int (pa_cons (pe_glob (v := .int 1000) rfl T.m_MOST_SPAN ⟨_, rfl⟩) pa_nil)))))
  (pss_one (ps_ret (pe_call (G_shapes_of (P := P) T) (hr.mono (by decide)) (by rfl) T.g_shapes_of T.F_shapes_of.kp T.b_shapes_of .nil pass0 (pa_cons (pv 0) (pa_cons (pv 1) pa_nil))))))), ?_⟩
  rcases h with ⟨hv, e⟩ | ⟨a, wd, W, rfl, hC, h⟩
  · exact ⟨_, rfl, v, rfl, .inr ⟨hv, e⟩⟩
  refine ⟨_, rfl, _, rfl, .inl ⟨a, wd, W, rfl, hC, ?_⟩⟩
  rcases h with ⟨hu, e⟩ | ⟨s, rfl, hs, q⟩
  · exact ⟨_, rfl, u, 0, some 1000, false, rfl, hu, (fun z => nomatch z), fun _ dd nd => e _ dd (Same.refl _) nd⟩
  · exact ⟨_, rfl, .int s, 0, some 1000, true, rfl, num_ok (by omega) (fun j h => by cases h; omega), fun _ => ⟨_, rfl, _, rfl, a, wd, W, s, rfl, hC, hs, q⟩, fun z => nomatch z⟩
end
end My

namespace My
open PySem PySem.Spec PyProof.Rows L2 Pre
/-! ### shapes by their numbers -/
theorem W17 {wd W : Nat} (hK : Ck wd W) (hw : wd ≤ 16) : W < 2 ^ 17 := by
  have h17 := pow17 (w := wd) hw
  have := hK.hi
  have e : 2 ^ (wd + 1) = 2 ^ wd * 2 := Nat.pow_succ ..
  omega
theorem cnt_pos {wd s k : Nat} (h : k < cntS wd s) : wd ≤ s := by
  unfold cntS at h
  by_cases c : wd < s
  · omega
  · rw [if_neg c] at h
    by_cases e : s = wd
    · omega
    · rw [if_neg e] at h; omega
local macro_rules | `(tactic| walk_at "go") => `(tactic| repeat (first | (with_reducible first | refine iteT ?_ | refine iteF ?_ | refine iteNtt ?_ | refine iteNff ?_ | refine iteET (by omega) ?_ | refine iteEF (by omega) ?_ | refine iteENT (by omega) ?_ | refine iteENF (by omega) ?_ | refine iteDT (by omega) ?_ | refine iteDF (by omega) ?_ | refine iteNT (by omega) ?_ | refine iteNF (by omega) ?_) | refine ⟨_, rfl, ?_⟩ | refine ⟨_, _, rfl, rfl, ?_⟩ | refine ⟨_, _, rfl, ?_⟩ | refine ⟨rfl, ?_⟩ | refine .inl ⟨_, rfl, ?_⟩ | refine .inr ⟨_, rfl, ?_⟩))
local macro_rules | `(tactic| walk_at "b") => `(tactic| try dsimp (config := { proj := false, iota := false, eta := false, zeta := false }) only)
section
variable {P : Program} {w : World} {K : PySem.W.Frag} {mg : Str → Option Value} {base : Heap} [pf : Sup.PF P fileS]
def sp_shape_at (K : PySem.W.Frag) (C CC CN : Addr) : Sp := fun vs H Q E => ∃ v u x : V, vs = [v, u, x] ∧ ((NoC K H v ∧ EE H E CC v) ∨ ∃ (a : Addr) (wd W : Nat), v = .ref a ∧ CheckAt C H a wd W ∧
  ((NumV K H u 0 (some 1000) false ∧ EE H E CN u) ∨ ∃ s : Nat, u = .int s ∧ s ≤ 1000 ∧
    ((NumV K H x 0 (some (((cntS wd s : Nat) : Int) - 1)) false ∧ EE H E CN x) ∨ ∃ k : Nat, x = .int k ∧ k < cntS wd s ∧ s ≤ 900 ∧ ∀ H' p, Same H H' → H p = none → H' p = some (.lst ((natI (onesN (shapeN wd W s k) (s + 1))).map V.int)) → Q (.ref p) H')))
theorem G_shape_at (T : Top K mg) : FnOk P w K mg base (L2.CX P w) 4 T.f_shape_at T.fd_shape_at ["check", "span", "number"] (sp_shape_at K T.C_Check T.C_InvalidCheck T.C_InvalidNumber) := by
  refine T.F_shape_at.ok (CX := L2.CX P w) sc_shape_at (fun vs H Q E h => by obtain ⟨v, u, x, rfl, _⟩ := h; rfl) (fun cdv A outer s H vs Q E hr h => ?_)
  obtain ⟨v, u, x, rfl, h⟩ := h
  refine ⟨_, (pss_cons (ps_expr (pe_call (G_check_check (P := P) T) (hr.mono (by decide)) (by rfl) T.g_check_check T.F_check_check.kp T.b_check_check .nil (passes_call (takes_of rfl rfl rfl rfl) (fun _ _ _ _ h => h)) (pa_cons (pv 0) pa_nil)))
  (pss_cons (ps_expr (pe_call (G_check_number (P := P) T) (hr.mono (by decide)) (by rfl) T.g_check_number T.F_check_number.kp T.b_check_number .nil (passes_call (takes_of rfl rfl rfl rfl) (fun _ _ _ _ h => h)) (pa_cons (pv 1) (pa_cons pe_int (pa_cons (pe_glob (v := .int 1000) rfl T.m_MOST_SPAN ⟨_, rfl⟩) pa_nil)))))
  (pss_cons (ps_expr (pe_call (G_check_number (P := P) T) (hr.mono (by decide)) (by rfl) T.g_check_number T.F_check_number.kp T.b_check_number .nil (passes_call (takes_of rfl rfl rfl rfl) (fun _ _ _ _ h => h)) (pa_cons (pv 2) (pa_cons pe_int (pa_cons (pe_op op_sub (pe_call (G_shapes_of (P := P) T) (hr.mono (by decide)) (by rfl) T.g_shapes_of T.F_shapes_of.kp T.b_shapes_of .nil pass0 (pa_cons (pv 0) (pa_cons (pv 1) pa_nil))) pe_int) pa_nil)))))
  (pss_cons (ps_par (by rfl) sc_shape_at.nd (i := 5) (j := 6) rfl rfl (by decide) rfl rfl (pa_cons (pe_op op_sub (pv 1) (pe_fld (pv 0) rfl)) (pa_cons (pe_call (G_sum_of (P := P) T) (hr.mono (by decide)) (by rfl) T.g_sum_of T.F_sum_of.kp T.b_sum_of .nil pass0 (pa_cons (pv 0) pa_nil)) pa_nil)) (by rfl))
  (pss_cons (ps_set (i := 3) sc_shape_at.nd rfl (by first | exact Or.inl rfl | exact Or.inr rfl) (pe_op op_shl (pv 6) (pv 5)))
  (pss_cons (ps_for (passes_of rfl) rfl (pi_range3 (by rfl) T.n_range (pa_cons (pe_op op_sub (pv 5) pe_int) (pa_cons pe_int (pa_cons (pe_un un_neg pe_int) pa_nil)))) (pg_name (i := 4) sc_shape_at.nd rfl (by first | exact Or.inl rfl | exact Or.inr rfl))
    (pss_one (ps_if (pt_cmpR op_ne (pe_op op_and (pe_op op_shr (pv 3) (pe_op op_add (pv 4) (pe_fld (pv 0) rfl))) pe_int) (pe_op op_and (pe_op op_shr (pv 2) (pe_op op_sub (pv 4) pe_int)) pe_int) (nomark _))
    (pss_one (ps_set (i := 3) sc_shape_at.nd rfl (by first | exact Or.inl rfl | exact Or.inr rfl) (pe_op op_xor (pv 3) (pe_op op_shl (pv 6) (pv 4)))))
    pss_nil)))
  (pss_one (ps_ret (pe_call (G_ones_in (P := P) T) (hr.mono (by decide)) (by rfl) T.g_ones_in T.F_ones_in.kp T.b_ones_in .nil pass0 (pa_cons (pe_ifExp (pt_cmpR op_gt (pv 5) pe_int (nomark _)) (pe_op op_xor (pv 3) (pv 6)) (pv 3)) pa_nil)))))))))), ?_⟩
  rcases h with ⟨hv, e⟩ | ⟨a, wd, W, rfl, hC, h⟩
  · exact ⟨_, rfl, v, rfl, .inr ⟨hv, e⟩⟩
  refine ⟨_, rfl, _, rfl, .inl ⟨a, wd, W, rfl, hC, ?_⟩⟩
  rcases h with ⟨hu, e⟩ | ⟨s, rfl, hs, h⟩
  · exact ⟨_, rfl, u, 0, some 1000, false, rfl, hu, (fun z => nomatch z), fun _ dd nd => e _ dd (Same.refl _) nd⟩
  refine ⟨_, rfl, .int s, 0, some 1000, true, rfl, num_ok (by omega) (fun j h => by cases h; omega), fun _ => ?_, fun z => nomatch z⟩
  refine ⟨_, rfl, _, rfl, _, rfl, a, wd, W, s, rfl, hC, hs, _, _, rfl, rfl, ?_⟩
  rcases h with ⟨hx, e⟩ | ⟨k, rfl, hk, h9, q⟩
  · exact ⟨x, 0, some (((cntS wd s : Nat) : Int) - 1), false, rfl, hx, (fun z => nomatch z), fun _ dd nd => e _ dd (Same.refl _) nd⟩
  refine ⟨.int k, 0, some (((cntS wd s : Nat) : Int) - 1), true, rfl, num_ok (by omega) (fun j h => by cases h; omega), fun _ => ?_, fun z => nomatch z⟩
  obtain ⟨hK, hw, dx, ha⟩ := id hC
  have hws := cnt_pos hk
  have h17 := W17 hK hw
  refine ⟨_, rfl, _, rfl, a, T.C_Check, dx, _, _, rfl, ha, T.cl_Check, T.na_Check_size, rfl, _, _, rfl, rfl, _, rfl, a, wd, W, rfl, hC, _, _, rfl, ?_⟩
  have em : (s : Int) - (wd : Int) = ((s - wd : Nat) : Int) := by omega
  dsimp only
  rw [em]
  generalize hm : s - wd = m
  refine ⟨_, rfl, _, rfl, _, _, rfl, rfl, ⟨by omega, by omega, by omega⟩, ?_⟩
  dsimp only
  rw [shlI]
  refine ⟨_, rfl, _, _, rfl, rfl, _, rfl, _, _, _, _, rfl, RgC.neg (by omega) (by omega) (by omega) (by omega), ?_⟩
  have en : ((m : Int) - 1 - 0).toNat = m - 1 := by omega
  refine for_it (n := m - 1) (Walk.mono (walk_rangeC (lo := (m : Int) - 1) (c := -1) (n := ((m : Int) - 1 - 0).toNat)) (fun _ _ => trivial) (fun _ _ _ _ _ _ y => y) |> fun h => by rw [en] at h; rw [en]; exact h) (fun i σ H1 => ∃ v4, σ = [some (.ref a), some (.int s), some (.int k), some (.int (makeS wd W m k i : Nat)), v4, some (.int m), some (.int W)] ∧ H1 = H) ⟨none, rfl, rfl⟩ (fun _ _ _ _ _ => trivial) ?_ ?_
  · rintro i x σ H1 H2 hi ⟨v4, rfl, rfl⟩ ⟨rfl, rfl⟩
    walk_at "b"
    have ep : (m : Int) - 1 + (i : Int) * -1 = ((m - 1 - i : Nat) : Int) := by omega
    rw [ep]
    have est : makeS wd W m k (i + 1) = stepS wd W k (makeS wd W m k i) (m - 1 - i) := rfl
    have hmk := (mk_all hK (m := m) (k := k) i (by omega)).lt
    generalize makeS wd W m k i = f at est hmk
    have hj : 1 ≤ m - 1 - i := by omega
    generalize hjj : m - 1 - i = j at *
    have eb1 : Builtin.bitAnd ((f : Int) / 2 ^ ((j : Int) + (wd : Int)).toNat) 1 = (((f.testBit (j + wd)).toNat : Nat) : Int) := by
      rw [show (j : Int) + (wd : Int) = ((j + wd : Nat) : Int) by omega]
      exact bit_int f (j + wd)
    have eb2 : Builtin.bitAnd ((k : Int) / 2 ^ ((j : Int) - 1).toNat) 1 = (((k.testBit (j - 1)).toNat : Nat) : Int) := by
      rw [show (j : Int) - 1 = ((j - 1 : Nat) : Int) by omega]
      exact bit_int k (j - 1)
    refine ⟨_, rfl, _, rfl, _, rfl, a, T.C_Check, dx, _, _, rfl, ha, T.cl_Check, T.na_Check_size, rfl, _, _, rfl, rfl, _, _, rfl, rfl, by omega, _, _, rfl, rfl, _, rfl, _, rfl, _, _, rfl, rfl, _, _, rfl, rfl, by omega, _, _, rfl, rfl, rfl, _, rfl, ?_⟩
    unfold stepS at est
    by_cases c : f.testBit (j + wd) = k.testBit (j - 1)
    · rw [if_pos c] at est
      refine iteENF (eb1.trans (by rw [c]; exact eb2.symm)) ?_
      rw [est]
      exact ⟨_, rfl, rfl⟩
    · rw [if_neg c] at est
      refine iteENT (fun z => c ?_) ?_
      · have z2 := eb1.symm.trans (z.trans eb2)
        cases h1 : f.testBit (j + wd) <;> cases h2 : k.testBit (j - 1) <;> rw [h1, h2] at z2 <;> first | rfl | (simp at z2)
      · refine ⟨_, rfl, _, rfl, _, rfl, _, _, rfl, rfl, ⟨by omega, by omega, by omega⟩, _, _, rfl, rfl, ?_⟩
        dsimp only
        rw [shlI, bx, est]
        exact ⟨_, rfl, rfl⟩
  · rintro σ H1 ⟨v4, rfl, rfl⟩
    have hsh := shape_is hK hk
    have key : ∀ n : Nat, n = shapeN wd W s k → sp_ones_in [V.int (n : Int)] H1 Q E0 := by
      rintro n rfl
      refine ⟨_, rfl, Nat.lt_of_lt_of_le hsh.lt (Nat.pow_le_pow_right (by decide) (by omega)), fun H' p s' np hp => ?_⟩
      refine q H' p s' np ?_
      have hb : Builtin.Int.intBits (shapeN wd W s k : Int) ≤ s + 1 := bl_iff.mpr hsh.lt
      have hs' : shapeN wd W s k < 2 ^ Builtin.Int.intBits (shapeN wd W s k : Int) := bl_iff.mp (Nat.le_refl _)
      rw [ones_more hs' hb]
      exact hp
    unfold shapeN at key
    rw [hm] at key
    refine ⟨_, rfl, _, _, rfl, rfl, _, rfl, ?_⟩
    by_cases c : wd < s
    · rw [if_pos c] at key
      refine iteDT (by omega) ?_
      refine ⟨_, rfl, _, rfl, _, _, rfl, rfl, ?_⟩
      dsimp only
      rw [bx]
      exact key _ rfl
    · rw [if_neg c] at key
      refine iteDF (by omega) ?_
      have e0 : m - 1 = 0 := by omega
      rw [e0]
      exact ⟨_, rfl, key _ rfl⟩
end
end My

namespace My
open PySem PySem.Spec PyProof.Rows L2 Pre
/-! ### the number of a shape -/
theorem cut_last (xs : List V) : cutV xs none (some (-1)) = xs.take (xs.length - 1) := by
  unfold cutV
  have e : HT.sIx xs.length xs.length (some (-1)) = xs.length - 1 := by
    show (if (-1 : Int) < 0 then ((-1 : Int) + ((xs.length : Nat) : Int)).toNat else min (-1 : Int).toNat xs.length) = _
    rw [if_pos (by decide)]
    omega
  rw [e, HT.sIx_none, List.drop_zero, Nat.sub_zero]
theorem at_end {xs : List V} {n : Nat} {v : V} (hl : xs.length = n + 1) (h : xs[n]? = some v) : atI xs (-1) = some v := by
  unfold atI
  unfold ixN
  rw [hl, if_neg (by omega), if_pos (by omega), show (-1 + ((n + 1 : Nat) : Int)).toNat = n by omega]
  exact h
theorem natI_len (ts : List Nat) : (natI ts).length = ts.length := by unfold natI; rw [List.length_map]
theorem nat_last {ts : List Nat} {l : Nat} (h : ts.getLast? = some l) : atI ((natI ts).map V.int) (-1) = some (.int (l : Int)) := by
  have hl : ts ≠ [] := by intro e; rw [e] at h; cases h
  have h0 : 0 < ts.length := List.length_pos_iff.mpr hl
  rw [List.getLast?_eq_getElem?] at h
  refine at_end (n := ts.length - 1) (by rw [nat_len]; omega) ?_
  unfold natI
  rw [List.getElem?_map, List.getElem?_map, h]
  rfl
theorem nat_first {ts : List Nat} : (natI ts).take 1 = [(0 : Int)] ↔ ts.head? = some 0 := by
  cases ts with
  | nil => exact ⟨(fun z => nomatch z), (fun z => nomatch z)⟩
  | cons t r =>
    show [(t : Int)] = [0] ↔ some t = some 0
    constructor
    · intro h
      have h2 : (t : Int) = 0 := (List.cons.inj h).1
      rw [show t = 0 by omega]
    · intro h
      rw [Option.some.inj h]
      rfl
/-- places that are no shape -/
def BadShape (wd W : Nat) (ts : List Nat) : Prop := ts.head? ≠ some 0 ∨ (∃ l, ts.getLast? = some l ∧ 1000 < l) ∨ valP wd W ts ≠ 0
def GoodShape (wd W : Nat) (ts : List Nat) : Prop := ts.head? = some 0 ∧ (∃ l, ts.getLast? = some l ∧ l ≤ 1000) ∧ valP wd W ts = 0
theorem pow_cast (i : Nat) : ((2 ^ i : Nat) : Int) = 2 ^ i := by rw [Int.natCast_pow]; rfl
theorem sum_cast : ∀ l : List Nat, ((l.map fun i => ((2 ^ i : Nat) : Int)).sum) = (((l.map fun i => 2 ^ i).sum : Nat) : Int)
  | [] => rfl
  | i :: l => by
    rw [List.map_cons, List.sum_cons, sum_cast l, List.map_cons, List.sum_cons]
    exact (Int.natCast_add ..).symm
theorem sel_high (wd : Nat) : ∀ l : List Nat, (l.map fun t => if wd < t then some (V.int ((t - wd - 1 : Nat) : Int)) else none).filterMap id = (natI ((l.filter fun t => decide (wd < t)).map fun t => t - wd - 1)).map V.int
  | [] => rfl
  | t :: l => by
    have ih := sel_high wd l
    unfold natI at ih ⊢
    by_cases c : wd < t
    · simp [c] at ih ⊢
      exact ih
    · simp [c] at ih ⊢
      exact ih
local macro_rules | `(tactic| walk_at "go") => `(tactic| repeat (first | (with_reducible first | refine iteT ?_ | refine iteF ?_ | refine iteNtt ?_ | refine iteNff ?_ | refine iteET (by omega) ?_ | refine iteEF (by omega) ?_ | refine iteENT (by omega) ?_ | refine iteENF (by omega) ?_ | refine iteDT (by omega) ?_ | refine iteDF (by omega) ?_ | refine iteNT (by omega) ?_ | refine iteNF (by omega) ?_) | refine ⟨_, rfl, ?_⟩ | refine ⟨_, _, rfl, rfl, ?_⟩ | refine ⟨_, _, rfl, ?_⟩ | refine ⟨rfl, ?_⟩ | refine .inl ⟨_, rfl, ?_⟩ | refine .inr ⟨_, rfl, ?_⟩))
local macro_rules | `(tactic| walk_at "b") => `(tactic| try dsimp (config := { proj := false, iota := false, eta := false, zeta := false }) only)
section
variable {P : Program} {w : World} {K : PySem.W.Frag} {mg : Str → Option Value} {base : Heap} [pf : Sup.PF P fileS]
def sp_shape_number (K : PySem.W.Frag) (C CC CP : Addr) : Sp := fun vs H Q E => ∃ v u : V, vs = [v, u] ∧ ((NoC K H v ∧ EE H E CC v) ∨ ∃ (a : Addr) (wd W : Nat), v = .ref a ∧ CheckAt C H a wd W ∧
  ((BadP K H u ∧ EE H E CP u) ∨ ∃ (b : Addr) (ts : List Nat), u = .ref b ∧ H b = some (.lst ((natI ts).map V.int)) ∧ Rising ts ∧ ((BadShape wd W ts ∧ EE H E CP u) ∨ (GoodShape wd W ts ∧ ∀ H', Same H H' → Q (.int (numS' wd ts : Nat)) H'))))
theorem G_shape_number (T : Top K mg) : FnOk P w K mg base (L2.CX P w) 6 T.f_shape_number T.fd_shape_number ["check", "places"] (sp_shape_number K T.C_Check T.C_InvalidCheck T.C_InvalidPlaces) := by
  refine T.F_shape_number.ok (CX := L2.CX P w) sc_shape_number (fun vs H Q E h => by obtain ⟨v, u, rfl, _⟩ := h; rfl) (fun cdv A outer s H vs Q E hr h => ?_)
  obtain ⟨v, u, rfl, h⟩ := h
  refine ⟨_, (pss_cons (ps_expr (pe_call (G_check_check (P := P) T) (hr.mono (by decide)) (by rfl) T.g_check_check T.F_check_check.kp T.b_check_check .nil (passes_call (takes_of rfl rfl rfl rfl) (fun _ _ _ _ h => h)) (pa_cons (pv 0) pa_nil)))
  (pss_cons (ps_expr (pe_call (G_check_places (P := P) T) (hr.mono (by decide)) (by rfl) T.g_check_places T.F_check_places.kp T.b_check_places .nil (passes_call (takes_of rfl rfl rfl rfl) (fun _ _ _ _ h => h)) (pa_cons (pv 1) pa_nil)))
  (pss_cons (ps_if (PW.pt (pw_or (pt_cmpR (k_neD K rfl hr.units) (pe_slice (k_slL K rfl) (pv 1) po_none (po_some pe_int)) (pe_lst (pa_cons pe_int pa_nil)) (nomark _)) (pw_or (pt_cmpR op_gt (pe_ix (k_ixL K rfl) (pv 1) (pe_un un_neg pe_int) (fun _ _ => rfl)) (pe_glob (v := .int 1000) rfl T.m_MOST_SPAN ⟨_, rfl⟩) (nomark _)) (pw_or1 (pt_cmpR op_ne (pe_call (G_sum_at (P := P) T) (hr.mono (by decide)) (by rfl) T.g_sum_at T.F_sum_at.kp T.b_sum_at .nil pass0 (pa_cons (pv 0) (pa_cons (pv 1) pa_nil))) pe_int (nomark _))))))
    (pss_one (ps_raise rfl (takes_of rfl rfl rfl rfl) (pmk_oex T.er_InvalidPlaces.sup.T T.er_InvalidPlaces.ini T.er_InvalidPlaces.ity (G_InvalidPlaces___init__ (P := P) (CX := CX0) T) (hr.mono (by decide)) T.er_InvalidPlaces.bnd .nil pass0 (by rfl) T.gc_InvalidPlaces (pa_cons (pv 1) pa_nil))))
    pss_nil)
  (pss_cons (ps_setLc (i := 2) (own := [("place", 3)]) (g := gName 3) (by rfl) sc_shape_number.nd rfl rfl (sw_true rfl rfl rfl (by decide +kernel)) (k_piL K rfl (pe_slice (k_slL K rfl) (pv 1) po_none (po_some (pe_un un_neg pe_int)))) (blkOk_by (own := [("place", 3)]) (N := N_shape_number) (sc := defScope s_shape_number) (by decide +kernel)) (fun _ _ _ _ _ => (pg_name (i := 3) sc_shape_number.nd rfl (by first | exact Or.inl rfl | exact Or.inr rfl))) (fun _ _ _ _ _ => (pts_one (pt_cmpR op_gt (pv 3) (k_fld K rfl (pv 0) rfl) (nomark _)))) (fun _ _ _ _ _ => (pe_op op_sub (pe_op op_sub (pv 3) (k_fld K rfl (pv 0) rfl)) pe_int)))
  (pss_one (ps_ret (pe_callB (k_sum K rfl rfl) (by rfl) T.n_sum (by decide +kernel) (pa_cons (pe_lc (own := [("place", 3)]) (g := gName 3) (tt := tYes) (by rfl) sc_shape_number.nd (k_piL K rfl (pv 2)) (blkOk_by (own := [("place", 3)]) (N := N_shape_number) (sc := defScope s_shape_number) (by decide +kernel)) (fun _ _ _ _ _ => (pg_name (i := 3) sc_shape_number.nd rfl (by first | exact Or.inl rfl | exact Or.inr rfl))) (fun _ _ _ _ _ => pts_nil) (fun _ _ _ _ _ => (pe_op op_shl pe_int (pv 3)))) pa_nil)))))))), ?_⟩
  rcases h with ⟨hv, e⟩ | ⟨a, wd, W, rfl, hC, h⟩
  · exact ⟨_, rfl, v, rfl, .inr ⟨hv, e⟩⟩
  refine ⟨_, rfl, _, rfl, .inl ⟨a, wd, W, rfl, hC, ?_⟩⟩
  rcases h with ⟨hu, e⟩ | ⟨b, ts, rfl, hB, hR, h⟩
  · exact ⟨_, rfl, u, rfl, .inr ⟨hu, e⟩⟩
  refine ⟨_, rfl, _, rfl, .inl ⟨b, ts, rfl, hB, hR, fun H1 s1 => ?_⟩⟩
  have hB1 : SqL K H1 b ((natI ts).map V.int) := .inl (.inl (s1 _ _ hB))
  have hC1 := hC.same s1
  refine ⟨_, rfl, _, rfl, b, _, rfl, hB1, fun c nc => ?_⟩
  rw [show (some (1 : Int)) = some ((1 : Nat) : Int) from rfl, cut_take, ← List.map_take]
  obtain ⟨H2, e2, s2, hc⟩ := fresh (.lst (((natI ts).take 1).map V.int)) nc
  rw [e2]
  refine ⟨(show 1 ≤ sizeLine by decide), fun c2 nc2 => ?_⟩
  obtain ⟨H3, e3, s3, hc2⟩ := fresh (.lst (([(0 : Int)]).map V.int)) nc2
  rw [show upd H2 c2 (.lst [V.int 0]) = H3 from e3]
  have s13 := (s1.trans s2).trans s3
  have hC3 := hC.same s13
  have hB3 : SqL K H3 b ((natI ts).map V.int) := .inl (.inl (s13 _ _ hB))
  refine neD_lst (.inl (.inl (s3 _ _ hc))) (.inl (.inl hc2)) ⟨_, rfl, ?_⟩
  have noGood : ¬ GoodShape wd W ts → EE H E T.C_InvalidPlaces (.ref b) := fun n => h.elim (fun z => z.2) fun z => absurd z.1 n
  have good : GoodShape wd W ts → ∀ H', Same H H' → Q (.int (numS' wd ts : Nat)) H' := fun g => h.elim (fun z => by
    rcases z.1 with n | ⟨l, hl, n⟩ | n
    · exact absurd g.1 n
    · obtain ⟨l', hl', n'⟩ := g.2.1
      rw [hl] at hl'
      cases hl'
      omega
    · exact absurd g.2.2 n) fun z => z.2
  by_cases g1 : ts.head? = some 0
  · rw [decide_eq_true (nat_first.mpr g1)]
    refine iteNtt ?_
    obtain ⟨l, hl⟩ : ∃ l, ts.getLast? = some l := by
      cases e : ts.getLast? with
      | some l => exact ⟨l, rfl⟩
      | none =>
        rw [List.getLast?_eq_none_iff] at e
        rw [e] at g1
        cases g1
    refine ⟨_, rfl, _, rfl, b, _, _, _, rfl, rfl, hB3, nat_last hl, _, _, rfl, rfl, _, rfl, ?_⟩
    by_cases g2 : 1000 < l
    · rw [decide_eq_true (show (l : Int) > 1000 by omega)]
      refine iteT (iteT ⟨_, rfl, mk_sup fun dd nd => noGood (fun g => ?_) _ dd s13 nd⟩)
      obtain ⟨l', hl', n'⟩ := g.2.1
      rw [hl] at hl'
      cases hl'
      omega
    rw [decide_eq_false (show ¬ (l : Int) > 1000 by omega)]
    refine iteF ?_
    refine ⟨_, rfl, _, rfl, a, b, wd, W, ts, rfl, hC3, hB3, rfl, _, rfl, ?_⟩
    by_cases g3 : valP wd W ts = 0
    · refine iteENF (by rw [g3]; rfl) ?_
      have q := good ⟨g1, ⟨l, hl, by omega⟩, g3⟩
      have hlen : ts.length ≤ 1000 := hR.2.2
      refine ⟨_, rfl, _, rfl, _, rfl, b, _, rfl, hB3, fun c3 nc3 => ?_⟩
      rw [cut_last, nat_len, ← List.map_take]
      have ed : (natI ts).take (ts.length - 1) = natI ts.dropLast := by
        unfold natI
        rw [← List.map_take, List.dropLast_eq_take]
      rw [ed]
      obtain ⟨H4, e4, s4, hc3⟩ := fresh (.lst ((natI ts.dropLast).map V.int)) nc3
      rw [e4]
      have s14 := s13.trans s4
      refine ⟨c3, rfl, ⟨_, .inl (.inl hc3)⟩, fun D nD => ?_⟩
      refine lc_selL (K := K) (a := c3) (xs := (natI ts.dropLast).map V.int) (ts.dropLast.map fun t => if wd < t then some (V.int ((t - wd - 1 : Nat) : Int)) else none) nD (.inl (.inl hc3)) (by rw [nat_len, List.length_map]) (by rw [nat_len, List.length_dropLast]; exact small1000' (by omega)) (fun x => rfl) ?_ ?_
      · intro i x o H' hx ho s Qt qt
        obtain ⟨t, ht, rfl⟩ := nat_at hx
        rw [List.getElem?_map, ht] at ho
        have ho' : (if wd < t then some (V.int ((t - wd - 1 : Nat) : Int)) else none) = o := Option.some.inj ho
        obtain ⟨hK, hw, dx, ha⟩ := hC.same (s14.trans s)
        refine ⟨_, rfl, _, rfl, a, T.C_Check, dx, _, _, rfl, ha, T.cl_Check, T.na_Check_size, rfl, _, _, rfl, rfl, _, rfl, ?_⟩
        by_cases c : wd < t
        · rw [if_pos c] at ho'
          subst ho'
          refine iteDT (by omega) ⟨_, rfl, _, rfl, a, T.C_Check, dx, _, _, rfl, ha, T.cl_Check, T.na_Check_size, rfl, _, _, rfl, rfl, _, _, rfl, rfl, ?_⟩
          dsimp only
          rw [show (t : Int) - (wd : Int) - 1 = ((t - wd - 1 : Nat) : Int) by omega]
          exact qt _ (Same.refl _)
        · rw [if_neg c] at ho'
          subst ho'
          exact iteDF (by omega) (qt _ (Same.refl _))
      · intro H5 s5 hD
        rw [sel_high] at hD
        have hb1000 : ∀ t ∈ ts, t ≤ 1000 := fun t ht => by
          have hne : ts ≠ [] := fun z => by rw [z] at ht; cases ht
          obtain ⟨i, hi, rfl⟩ := List.getElem_of_mem ht
          rw [List.getLast?_eq_getElem?, List.getElem?_eq_getElem (by omega)] at hl
          have hl := Option.some.inj hl
          by_cases e : i = ts.length - 1
          · subst e; omega
          · have := List.pairwise_iff_getElem.mp hR.1 i (ts.length - 1) hi (by omega) (by omega)
            omega
        generalize ehs : (ts.dropLast.filter fun t => decide (wd < t)).map (fun t => t - wd - 1) = hs at hD
        have hhs : ∀ t ∈ hs, t ≤ 1000 := fun t ht => by
          rw [← ehs] at ht
          obtain ⟨u, hu, rfl⟩ := List.mem_map.mp ht
          have := hb1000 u (List.dropLast_subset _ (List.mem_filter.mp hu).1)
          omega
        have hsl : hs.length ≤ 1000 := by
          rw [← ehs, List.length_map]
          have := List.length_filter_le (fun t => decide (wd < t)) ts.dropLast
          rw [List.length_dropLast] at this
          omega
        refine ⟨_, rfl, D, rfl, ⟨_, .inl (.inl hD)⟩, fun D2 nD2 => ?_⟩
        refine lc_mapL (K := K) (a := D) (xs := (natI hs).map V.int) ((hs.map fun i => ((2 ^ i : Nat) : Int)).map V.int) nD2 (.inl (.inl hD)) (by rw [nat_len, List.length_map, List.length_map]) (by rw [nat_len]; exact small1000' (by omega)) (fun x => rfl) ?_ ?_
        · intro i x y H' hx hy s Qt qt
          obtain ⟨t, ht, rfl⟩ := nat_at hx
          rw [List.getElem?_map, List.getElem?_map, ht] at hy
          cases hy
          have := hhs t (List.mem_of_getElem? ht)
          refine ⟨_, rfl, _, _, rfl, rfl, ⟨by omega, by omega, by decide⟩, ?_⟩
          dsimp only
          rw [Int.one_mul, Int.toNat_natCast, ← pow_cast]
          exact qt _ (Same.refl _)
        · intro H6 s6 hD2
          refine ⟨D2, _, rfl, .inl (.inl hD2), ?_⟩
          rw [sum_cast, ← ehs]
          exact q _ ((s14.trans s5).trans s6)
    · exact iteENT (by omega) ⟨_, rfl, mk_sup fun dd nd => noGood (fun g => g3 g.2.2) _ dd s13 nd⟩
  · rw [decide_eq_false (mt nat_first.mp g1)]
    exact iteNff (iteT ⟨_, rfl, mk_sup fun dd nd => noGood (fun g => g1 g.1) _ dd s13 nd⟩)
end
end My

namespace My
open PySem PySem.Spec PyProof.Rows L2 Pre
/-- the lists at as are new since H0, none of them is f, and they hold the rows -/
def NewRows (H0 : Hp) (f : Addr) (H : Hp) (as : List Addr) (rows : List (List Int)) : Prop := as.length = rows.length ∧ ∀ (i : Nat) (a : Addr) (r : List Int), as[i]? = some a → rows[i]? = some r → H0 a = none ∧ a ≠ f ∧ H a = some (.lst (r.map V.int))
theorem NewRows.nil {H0 H : Hp} {f : Addr} : NewRows H0 f H [] [] := ⟨rfl, fun i a r h => by simp at h⟩
theorem NewRows.app {H0 H : Hp} {f : Addr} {as bs : List Addr} {xs ys : List (List Int)} (h : NewRows H0 f H as xs) (k : NewRows H0 f H bs ys) : NewRows H0 f H (as ++ bs) (xs ++ ys) := by
  refine ⟨by rw [List.length_append, List.length_append, h.1, k.1], fun i a r ha hr => ?_⟩
  by_cases c : i < as.length
  · rw [List.getElem?_append_left c] at ha
    rw [List.getElem?_append_left (by rw [← h.1]; exact c)] at hr
    exact h.2 i a r ha hr
  · rw [List.getElem?_append_right (by omega)] at ha
    rw [List.getElem?_append_right (by rw [← h.1]; omega), ← h.1] at hr
    exact k.2 _ a r ha hr
theorem NewRows.one {H0 H : Hp} {f p : Addr} {r : List Int} (h1 : H0 p = none) (h2 : p ≠ f) (h3 : H p = some (.lst (r.map V.int))) : NewRows H0 f H [p] [r] := by
  refine ⟨rfl, fun i a q ha hq => ?_⟩
  cases i with
  | zero =>
    rw [List.getElem?_cons_zero] at ha hq
    cases ha
    cases hq
    exact ⟨h1, h2, h3⟩
  | succ i => simp at ha
/-- all but f stand -/
theorem NewRows.but {H0 H H' : Hp} {f : Addr} {as : List Addr} {rows : List (List Int)} (h : NewRows H0 f H as rows) (s : ∀ b o, b ≠ f → H b = some o → H' b = some o) : NewRows H0 f H' as rows :=
  ⟨h.1, fun i a r ha hr => by
    obtain ⟨a1, a2, a3⟩ := h.2 i a r ha hr
    exact ⟨a1, a2, s _ _ a2 a3⟩⟩
/-- another base, another one that it is not -/
theorem NewRows.base {H0 H1 H : Hp} {f g : Addr} {as : List Addr} {rows : List (List Int)} (h : NewRows H1 f H as rows) (s : Same H0 H1) (n : H1 g ≠ none) : NewRows H0 g H as rows :=
  ⟨h.1, fun i a r ha hr => by
    obtain ⟨a1, a2, a3⟩ := h.2 i a r ha hr
    exact ⟨s.free a1, fun z => n (by rw [← z]; exact a1), a3⟩⟩
theorem NewRows.rows {H0 H : Hp} {f p : Addr} {as : List Addr} {rows : List (List Int)} (h : NewRows H0 f H as rows) (hp : H p = some (.lst (as.map V.ref))) : RowsIn H p rows := ⟨as, hp, h.1, fun i a r ha hr => (h.2 i a r ha hr).2.2⟩
theorem ne_rows {K : PySem.W.Frag} {H : Hp} {p q : Addr} {xs ys : List (List Int)} {Q : V → Hp → Prop} (hp : RowsIn H p xs) (hq : RowsIn H q ys) (e : xs = ys) (k : Q (.bl false) H) : rNeD K (.ref p) (.ref q) H Q := by
  subst e
  obtain ⟨as, h1, h2, h3⟩ := hp
  obtain ⟨bs, k1, k2, k3⟩ := hq
  refine ⟨.list (xs.map rowD), .list (xs.map rowD), .lst (.inl (.inl h1)) (rows_dp h2 h3), .lst (.inl (.inl k1)) (rows_dp k2 k3), rows_shaped xs, rows_shaped xs, ?_⟩
  rw [SeqAt.eqv_refl _ (Bool.and_eq_true_iff.mp (rows_shaped xs)).1]
  exact k
theorem eq_rows {K : PySem.W.Frag} {H : Hp} {p q : Addr} {xs ys : List (List Int)} {Q : V → Hp → Prop} (hp : RowsIn H p xs) (hq : RowsIn H q ys) (e : xs = ys) (k : Q (.bl true) H) : rEqD K (.ref p) (.ref q) H Q := by
  subst e
  obtain ⟨as, h1, h2, h3⟩ := hp
  obtain ⟨bs, k1, k2, k3⟩ := hq
  refine ⟨.list (xs.map rowD), .list (xs.map rowD), .lst (.inl (.inl h1)) (rows_dp h2 h3), .lst (.inl (.inl k1)) (rows_dp k2 k3), rows_shaped xs, rows_shaped xs, ?_⟩
  rw [SeqAt.eqv_refl _ (Bool.and_eq_true_iff.mp (rows_shaped xs)).1]
  exact k
/-- a comprehension that makes new lists of whole numbers -/
theorem lc_rowsL {K : PySem.W.Frag} {a : Addr} {xs : List V} {j : Nat} {tt : TT} {te : TE} {vs : List Nat} {σ : L2.St} {H1 : Hp} {D : Addr} {Qd : Hp → Prop} (sel : List (Option (List Int))) (nD : H1 D = none) (hS : SqL K H1 a xs) (hlen : sel.length = xs.length) (hz : xs.length < sizeLine)
    (hw : ∀ x, wipe ((wipe σ vs).set j (some x)) vs = wipe σ vs)
    (hs : ∀ (i : Nat) (x : V) (o : Option (List Int)) (H' : Hp), xs[i]? = some x → sel[i]? = some o → Same H1 H' → ∀ Qt : Option V → Hp → Prop, (o = none → ∀ H'', Same H' H'' → Qt none H'') → (∀ r, o = some r → ∀ p H'', Same H' H'' → H' p = none → H'' p = some (.lst (r.map V.int)) → Qt (some (.ref p)) H'') →
      tt ((wipe σ vs).set j (some x)) H' fun b H3 => if b = true then te ((wipe σ vs).set j (some x)) H3 fun y H4 => Qt (some y) H4 else Qt none H3)
    (hd : ∀ H' as, Same H1 H' → H' D = some (.lst (as.map V.ref)) → NewRows H1 D H' as (sel.filterMap id) → Qd H') :
    ∃ W : Nat → Nat → Hp → Prop, (∃ m, W 0 m (upd H1 D (.lst []))) ∧ ∀ i m H, W i m H →
      ((Itl K a).stop i H ∧ Qd H) ∨ ((Itl K a).go i H ∧ ∃ Nx : Hp → Prop, (∀ H', Nx H' → ∃ m', m' < m ∧ W (i + 1) m' H') ∧ ∀ x H', (Itl K a).yld i H x H' → gName j x (wipe σ vs) H' fun σ2 H2 => wipe σ2 vs = wipe σ vs ∧ tt σ2 H2 fun b H3 =>
        if b = true then te σ2 H3 fun y H4 => ∃ acc, H4 D = some (.lst acc) ∧ acc.length < sizeLine ∧ Nx (upd H4 D (.lst (acc ++ [y]))) else Nx H3) := by
  refine lc_list (K := K) (a := a) (xs := xs) (fun i H => Same H1 H ∧ ∃ as, H D = some (.lst (as.map V.ref)) ∧ NewRows H1 D H as ((sel.take i).filterMap id)) ⟨same_upd nD, [], upd_same, .nil⟩ (fun i H _ p => p.1.seq hS) ?_ ?_
  · rintro i x H hx ⟨s, as, hD, hN⟩
    refine ⟨hw x, ?_⟩
    have hi : i < sel.length := by rw [hlen]; exact (List.getElem?_eq_some_iff.mp hx).1
    have ho : sel[i]? = some sel[i] := List.getElem?_eq_getElem hi
    have hl : (as.map V.ref).length < sizeLine := by
      rw [List.length_map, hN.1]
      exact Nat.lt_of_le_of_lt (fm_len sel i) (by omega)
    have h := hs i x sel[i] H hx ho s
    generalize sel[i] = o at ho h
    cases o with
    | none =>
      refine h (fun y H4 => match y with | some y => ∃ acc, H4 D = some (.lst acc) ∧ acc.length < sizeLine ∧ (Same H1 (upd H4 D (.lst (acc ++ [y]))) ∧ ∃ as, (upd H4 D (.lst (acc ++ [y]))) D = some (.lst (as.map V.ref)) ∧ NewRows H1 D (upd H4 D (.lst (acc ++ [y]))) as ((sel.take (i + 1)).filterMap id)) | none => Same H1 H4 ∧ ∃ as, H4 D = some (.lst (as.map V.ref)) ∧ NewRows H1 D H4 as ((sel.take (i + 1)).filterMap id)) (fun _ H4 s4 => ?_) (fun r z => by cases z)
      refine ⟨s.trans s4, as, s4 _ _ hD, ?_⟩
      rw [take_fm ho]
      simp only [Option.toList, List.append_nil]
      exact hN.but fun b o _ hb => s4 _ _ hb
    | some r =>
      refine h (fun y H4 => match y with | some y => ∃ acc, H4 D = some (.lst acc) ∧ acc.length < sizeLine ∧ (Same H1 (upd H4 D (.lst (acc ++ [y]))) ∧ ∃ as, (upd H4 D (.lst (acc ++ [y]))) D = some (.lst (as.map V.ref)) ∧ NewRows H1 D (upd H4 D (.lst (acc ++ [y]))) as ((sel.take (i + 1)).filterMap id)) | none => Same H1 H4 ∧ ∃ as, H4 D = some (.lst (as.map V.ref)) ∧ NewRows H1 D H4 as ((sel.take (i + 1)).filterMap id)) (fun z => by cases z) (fun r' z p H4 s4 np hp => ?_)
      cases z
      refine ⟨_, s4 _ _ hD, hl, same_over nD (s.trans s4), as ++ [p], by rw [upd_same, List.map_append]; rfl, ?_⟩
      rw [take_fm ho]
      have npD : p ≠ D := (ne_of_none hD np).symm
      refine (NewRows.app (hN.but fun b o _ hb => s4 _ _ hb) (NewRows.one (s.free np) npD hp)).but fun b o nb hb => by rw [upd_ne nb]; exact hb
  · rintro H ⟨s, as, hD, hN⟩
    rw [← hlen, List.take_length] at hN
    exact hd H as s hD hN
end My

namespace My
open PySem PySem.Spec PyProof.Rows L2 Pre
/-! ### the law: rests, places, small spans -/
theorem len_natI (ts : List Nat) : ((natI ts).map V.int).length = ts.length := nat_len ts
/-- the rows that are due -/
def dueR (wd W s : Nat) : List (List Int) := (shapesL wd W s).map fun v => natI (onesN v (s + 1))
theorem due_len {wd W s : Nat} (C : Ck wd W) : (dueR wd W s).length = cntS wd s := by unfold dueR; rw [shapes_all C, List.length_map, List.length_map, List.length_range]
theorem due_at {wd W s k : Nat} (C : Ck wd W) (hk : k < cntS wd s) : (dueR wd W s)[k]? = some (natI (onesN (shapeN wd W s k) (s + 1))) := by
  unfold dueR
  rw [shapes_all C, List.getElem?_map, List.getElem?_map, List.getElem?_range hk]
  rfl
theorem shape_good {wd W s k : Nat} (C : Ck wd W) (hw : wd ≤ 16) (hk : k < cntS wd s) (hs : s ≤ 900) : Rising (onesN (shapeN wd W s k) (s + 1)) ∧ GoodShape wd W (onesN (shapeN wd W s k) (s + 1)) ∧ numS' wd (onesN (shapeN wd W s k) (s + 1)) = k := by
  have h := shape_is C hk
  refine ⟨⟨ones_rise _ _, fun t ht => ?_, ?_⟩, ⟨?_, ⟨s, ?_, by omega⟩, ?_⟩, num_back C hk h⟩
  · have := (ones_mem.mp ht).1
    omega
  · have := List.length_filter_le (fun i => (shapeN wd W s k).testBit i) (List.range (s + 1))
    unfold onesN
    rw [List.length_range] at this
    omega
  · have e : onesN (shapeN wd W s k) (s + 1) = 0 :: ((List.range s).map Nat.succ).filter fun i => (shapeN wd W s k).testBit i := by
      unfold onesN
      rw [List.range_succ_eq_map, List.filter_cons_of_pos h.odd]
    rw [e]
    rfl
  · rw [ones_last h.lt h.top, List.getLast?_append]
    rfl
  · rw [valP_ones C h.lt, h.rem0]
theorem cnt_le (wd s : Nat) : cntS wd s ≤ 2 ^ s := by
  unfold cntS
  have : 0 < 2 ^ s := Nat.pow_pos (by decide)
  by_cases c : wd < s
  · rw [if_pos c]; exact Nat.pow_le_pow_right (by decide) (by omega)
  · rw [if_neg c]
    by_cases e : s = wd
    · rw [if_pos e]; omega
    · rw [if_neg e]; omega
theorem odd_sel (n : Nat) : ∀ l : List Nat, (l.map fun i => if (n + i) % 2 = 1 then some (V.int ((n + i : Nat) : Int)) else none).filterMap id = (natI ((l.map (n + ·)).filter fun v => decide (v % 2 = 1))).map V.int
  | [] => rfl
  | i :: l => by
    have ih := odd_sel n l
    unfold natI at ih ⊢
    by_cases c : (n + i) % 2 = 1
    · simp [c] at ih ⊢
      exact ih
    · simp [c] at ih ⊢
      exact ih
theorem due_sel (wd W s : Nat) : ∀ l : List Nat, (l.map fun v => if rem wd W v = 0 then some (natI (onesN v (s + 1))) else none).filterMap id = (l.filter fun v => decide (rem wd W v = 0)).map fun v => natI (onesN v (s + 1))
  | [] => rfl
  | v :: l => by
    have ih := due_sel wd W s l
    by_cases c : rem wd W v = 0
    · simp [c] at ih ⊢
      exact ih
    · simp [c] at ih ⊢
      exact ih
local macro_rules | `(tactic| walk_at "go") => `(tactic| repeat (first | (with_reducible first | refine iteT ?_ | refine iteF ?_ | refine iteNtt ?_ | refine iteNff ?_ | refine iteET (by omega) ?_ | refine iteEF (by omega) ?_ | refine iteENT (by omega) ?_ | refine iteENF (by omega) ?_ | refine iteDT (by omega) ?_ | refine iteDF (by omega) ?_ | refine iteNT (by omega) ?_ | refine iteNF (by omega) ?_) | refine ⟨_, rfl, ?_⟩ | refine ⟨_, _, rfl, rfl, ?_⟩ | refine ⟨_, _, rfl, ?_⟩ | refine ⟨rfl, ?_⟩ | refine .inl ⟨_, rfl, ?_⟩ | refine .inr ⟨_, rfl, ?_⟩))
local macro_rules | `(tactic| walk_at "b") => `(tactic| try dsimp (config := { proj := false, iota := false, eta := false, zeta := false }) only)
section
variable {P : Program} {w : World} {K : PySem.W.Frag} {mg : Str → Option Value} {base : Heap} [pf : Sup.PF P fileS]
def sp_law_rest : Sp := fun vs H Q _ => ∃ (wd W n : Nat), vs = [.int W, .int n] ∧ Ck wd W ∧ wd ≤ 16 ∧ n < 2 ^ 1000 ∧ Q (.int (rem wd W n)) H
theorem G_law_rest (T : Top K mg) : FnOk P w K mg base CX0 1 T.f_law_rest T.fd_law_rest ["_law_whole", "_law_number"] sp_law_rest := by
  refine T.F_law_rest.ok sc_law_rest (fun vs H Q E h => by obtain ⟨wd, W, n, rfl, _⟩ := h; rfl) (fun cdv A outer s H vs Q E hr h => ?_)
  obtain ⟨wd, W, n, rfl, hK, hw, hn, q⟩ := h
  refine ⟨_, PSs.nox (pss_cons (ps_set (i := 2) sc_law_rest.nd rfl (by first | exact Or.inl rfl | exact Or.inr rfl) (pv 1))
  (pss_cons (ps_while PassesOwn.never (pt_cmpR op_ge (pe_bits (pv 2)) (pe_bits (pv 0)) (nomark _))
    (pss_one (ps_set (i := 2) sc_law_rest.nd rfl (by first | exact Or.inl rfl | exact Or.inr rfl) (pe_op op_xor (pv 2) (pe_op op_shl (pv 0) (pe_op op_sub (pe_bits (pv 2)) (pe_bits (pv 0))))))))
  (pss_one (ps_ret (pv 2))))), ?_⟩
  have h17 := pow17 (w := wd + 1 - 1) (by omega)
  have hW : W < 2 ^ 17 := by
    have := hK.hi
    have e : 2 ^ (wd + 1) = 2 ^ wd * 2 := Nat.pow_succ ..
    simp at h17
    omega
  refine ⟨_, rfl, ?_⟩
  refine ⟨fun m σ H1 => ∃ l : Nat, σ = [some (.int W), some (.int n), some (.int l)] ∧ H1 = H ∧ m = l ∧ l < 2 ^ 1000 ∧ rem wd W l = rem wd W n, ⟨n, n, rfl, rfl, rfl, hn, rfl⟩, ?_⟩
  rintro m σ H1 ⟨l, rfl, rfl, hm, hl, hr⟩
  refine ⟨_, rfl, _, rfl, _, rfl, _, rfl, _, _, rfl, rfl, _, rfl, ite2 (fun c => ?_) (fun c => ?_)⟩
  · have c1 : wd + 1 ≤ Builtin.Int.intBits (l : Int) := by
      have := of_decide_eq_true c
      rw [bl_W hK] at this
      omega
    obtain ⟨t1, t2⟩ := rest_turn hK c1
    have hb : Builtin.Int.intBits (l : Int) ≤ 1000 := bl_iff.mpr hl
    refine ⟨fun σ' H' => ∃ l' : Nat, σ' = [some (.int W), some (.int n), some (.int l')] ∧ H' = H1 ∧ l' < l ∧ l' < 2 ^ 1000 ∧ rem wd W l' = rem wd W n, fun σ' H' ⟨l', e1, e2, e3, e4, e5⟩ => ⟨l', by omega, l', e1, e2, rfl, e4, e5⟩, ?_⟩
    have ek : ((Builtin.Int.intBits (l : Int) : Nat) : Int) - ((Builtin.Int.intBits (W : Int) : Nat) : Int) = ((Builtin.Int.intBits (l : Int) - (wd + 1) : Nat) : Int) := by
      rw [bl_W hK]
      omega
    refine ⟨_, rfl, _, rfl, _, rfl, _, rfl, _, rfl, _, rfl, _, _, rfl, rfl, _, _, rfl, rfl, ⟨by omega, by omega, by omega⟩, _, _, rfl, rfl, ?_⟩
    dsimp only
    rw [ek, shlI, bx]
    exact ⟨_, rfl, rfl, t1, by omega, t2.trans hr⟩
  · have c1 : Builtin.Int.intBits (l : Int) ≤ wd := by
      have : ¬ ((Builtin.Int.intBits (l : Int) : Nat) : Int) ≥ ((Builtin.Int.intBits (W : Int) : Nat) : Int) := fun z => c (decide_eq_true z)
      rw [bl_W hK] at this
      omega
    rw [← hr, rem_small hK _ (bl_iff.mp c1)] at q
    exact ⟨_, rfl, q⟩

def sp_law_places : Sp := fun vs H Q _ => ∃ n k : Nat, vs = [.int n] ∧ n < 2 ^ k ∧ k ≤ 1000 ∧ ∀ H' p, Same H H' → H p = none → H' p = some (.lst ((natI (onesN n k)).map V.int)) → Q (.ref p) H'
theorem G_law_places (T : Top K mg) : FnOk P w K mg base CX0 1 T.f_law_places T.fd_law_places ["_law_number"] sp_law_places := by
  refine T.F_law_places.ok sc_law_places (fun vs H Q E h => by obtain ⟨n, k0, rfl, _⟩ := h; rfl) (fun cdv A outer s H vs Q E hr h => ?_)
  obtain ⟨n, k0, rfl, hn, hk0, q⟩ := h
  refine ⟨_, PSs.nox (pss_one (ps_ret (pe_lc (own := [("_law_place", 1)]) (g := gName 1) (by rfl) sc_law_places.nd (pi_range1 (by rfl) T.n_range (pa_cons (pe_bits (pv 0)) pa_nil)) (blkOk_by (own := [("_law_place", 1)]) (N := N_law_places) (sc := defScope s_law_places) (by decide +kernel)) (fun _ _ _ _ _ => (pg_name (i := 1) sc_law_places.nd rfl (by first | exact Or.inl rfl | exact Or.inr rfl))) (fun _ _ _ _ _ => (pts_one (pt_cmpR op_eq (pe_op op_mod (pe_op op_shr (pv 0) (pv 1)) pe_int) pe_int (nomark _)))) (fun _ _ _ _ _ => (pv 1))))), ?_⟩
  have hb : Builtin.Int.intBits (n : Int) ≤ k0 := bl_iff.mpr hn
  have hs : n < 2 ^ Builtin.Int.intBits (n : Int) := bl_iff.mp (Nat.le_refl _)
  rw [ones_more hs hb] at q
  obtain ⟨k, ek⟩ : ∃ k, Builtin.Int.intBits (n : Int) = k := ⟨_, rfl⟩
  rw [ek] at hb q
  refine ⟨_, rfl, _, rfl, _, rfl, by rw [ek]; omega, by rw [ek]; omega, fun D nD => ?_⟩
  rw [ek]
  refine lc_selR (lo := 0) (n := ((k : Int)).toNat) ((List.range k).map fun i => if n.testBit i = true then some (V.int (i : Int)) else none) nD (by rw [List.length_map, List.length_range]; rfl) (small1000' (by omega)) (fun x => rfl) ?_ ?_
  · intro i o H' hi ho s Qt qt
    rw [Int.toNat_natCast] at hi
    rw [List.getElem?_map, List.getElem?_range hi] at ho
    cases ho
    rw [show (0 + (i : Int)) = (i : Int) by omega]
    have eb := bit_mod n i
    refine ⟨_, rfl, _, rfl, _, _, rfl, rfl, by omega, _, _, rfl, rfl, (by show (0 : Int) < 2; decide), rfl, _, rfl, ?_⟩
    by_cases c : n.testBit i = true
    · refine iteET (eb.trans (by rw [c]; rfl)) ?_
      have z := qt H' (Same.refl _)
      dsimp only at z
      rw [if_pos c] at z
      exact ⟨_, rfl, z⟩
    · refine iteEF (fun z => c (by have z2 := eb.symm.trans z; cases h : n.testBit i <;> first | rfl | (rw [h] at z2; simp at z2))) ?_
      have z := qt H' (Same.refl _)
      dsimp only at z
      rw [if_neg c] at z
      exact z
  · intro H' s hD
    rw [ones_sel] at hD
    exact q _ D s nD hD

def sp_law_small_right (C : Addr) : Sp := fun vs H Q _ => ∃ (a : Addr) (wd W s : Nat), vs = [.ref a, .int W, .int s] ∧ CheckAt C H a wd W ∧ s ≤ 9 ∧ ∀ H', Same H H' → Q (.bl true) H'
theorem G_law_small_right (T : Top K mg) : FnOk P w K mg base CX0 7 T.f_law_small_right T.fd_law_small_right ["_law_check", "_law_whole", "_law_span"] (sp_law_small_right T.C_Check) := by
  refine T.F_law_small_right.ok sc_law_small_right (fun vs H Q E h => by obtain ⟨a, wd, W, s, rfl, _⟩ := h; rfl) (fun cdv A outer s H vs Q E hr h => ?_)
  obtain ⟨a, wd, W, s, rfl, hC, hs, q⟩ := h
  refine ⟨_, PSs.nox (pss_cons (ps_setLc (i := 3) (own := [("_law_number", 5)]) (g := gName 5) (by rfl) sc_law_small_right.nd rfl rfl (sw_true rfl rfl rfl (by decide +kernel)) (pi_range2 (by rfl) T.n_range (pa_cons (pe_op op_shl pe_int (pv 2)) (pa_cons (pe_op op_shl pe_int (pe_op op_add (pv 2) pe_int)) pa_nil))) (blkOk_by (own := [("_law_number", 5)]) (N := N_law_small_right) (sc := defScope s_law_small_right) (by decide +kernel)) (fun _ _ _ _ _ => (pg_name (i := 5) sc_law_small_right.nd rfl (by first | exact Or.inl rfl | exact Or.inr rfl))) (fun _ _ _ _ _ => (pts_one (pt_cmpR op_eq (pe_op op_mod (pv 5) pe_int) pe_int (nomark _)))) (fun _ _ _ _ _ => (pv 5)))
  (pss_cons (ps_setLc (i := 4) (own := [("_law_number", 5)]) (g := gName 5) (by rfl) sc_law_small_right.nd rfl rfl (sw_true rfl rfl rfl (by decide +kernel)) (k_piL K rfl (pv 3)) (blkOk_by (own := [("_law_number", 5)]) (N := N_law_small_right) (sc := defScope s_law_small_right) (by decide +kernel)) (fun _ _ _ _ _ => (pg_name (i := 5) sc_law_small_right.nd rfl (by first | exact Or.inl rfl | exact Or.inr rfl))) (fun _ _ _ _ _ => (pts_one (pt_cmpR op_eq (pe_call (G_law_rest (P := P) T) (hr.mono (by decide)) (by rfl) T.g_law_rest T.F_law_rest.kp T.b_law_rest .nil pass0 (pa_cons (pv 1) (pa_cons (pv 5) pa_nil))) pe_int (nomark _)))) (fun _ _ _ _ _ => (pe_call (G_law_places (P := P) T) (hr.mono (by decide)) (by rfl) T.g_law_places T.F_law_places.kp T.b_law_places .nil pass0 (pa_cons (pv 5) pa_nil))))
  (pss_cons (ps_if (pt_cmpR op_ne (pe_call (G_how_many_shapes (P := P) T) (hr.mono (by decide)) (by rfl) T.g_how_many_shapes T.F_how_many_shapes.kp T.b_how_many_shapes .nil passL (pa_cons (pv 0) (pa_cons (pv 2) pa_nil))) (pe_callB (k_len K rfl) (by rfl) T.n_len (by decide +kernel) (pa_cons (pv 4) pa_nil)) (nomark _))
    (pss_one (ps_ret pe_bl))
    pss_nil)
  (pss_cons (ps_for PassesOwn.never rfl (pi_range1 (by rfl) T.n_range (pa_cons (pe_callB (k_len K rfl) (by rfl) T.n_len (by decide +kernel) (pa_cons (pv 4) pa_nil)) pa_nil)) (pg_name (i := 5) sc_law_small_right.nd rfl (by first | exact Or.inl rfl | exact Or.inr rfl))
    (pss_cons (ps_set (i := 6) sc_law_small_right.nd rfl (by first | exact Or.inl rfl | exact Or.inr rfl) (pe_call (G_shape_at (P := P) T) (hr.mono (by decide)) (by rfl) T.g_shape_at T.F_shape_at.kp T.b_shape_at .nil passL (pa_cons (pv 0) (pa_cons (pv 2) (pa_cons (pv 5) pa_nil)))))
  (pss_cons (ps_if (PW.pt (pw_or (pt_cmpR (k_neD K rfl hr.units) (pv 6) (pe_ix (k_ixL K rfl) (pv 4) (pv 5) (fun _ _ => rfl)) (nomark _)) (pw_or1 (pt_cmpR op_ne (pe_call (G_shape_number (P := P) T) (hr.mono (by decide)) (by rfl) T.g_shape_number T.F_shape_number.kp T.b_shape_number .nil passL (pa_cons (pv 0) (pa_cons (pv 6) pa_nil))) (pv 5) (nomark _)))))
    (pss_one (ps_ret pe_bl))
    pss_nil)
  (pss_cons (ps_expr (pe_bm PySem.F.plainAttrs_list PySem.F.slot_list_append PySem.F.type_list_append mt_append (pv 6) (pa_cons pe_non pa_nil)))
  (pss_one (ps_if (pt_cmpR (k_neD K rfl hr.units) (pe_call (G_shape_at (P := P) T) (hr.mono (by decide)) (by rfl) T.g_shape_at T.F_shape_at.kp T.b_shape_at .nil passL (pa_cons (pv 0) (pa_cons (pv 2) (pa_cons (pv 5) pa_nil)))) (pe_ix (k_ixL K rfl) (pv 4) (pv 5) (fun _ _ => rfl)) (nomark _))
    (pss_one (ps_ret pe_bl))
    pss_nil))))))
  (pss_one (ps_ret pe_bl)))))), ?_⟩
  obtain ⟨hK, hw, dx, ha⟩ := id hC
  have hp9 : 2 ^ s ≤ 2 ^ 9 := Nat.pow_le_pow_right (by decide) hs
  have e1 : (1 : Int) * 2 ^ ((s : Int)).toNat = ((2 ^ s : Nat) : Int) := by rw [Int.one_mul, Int.toNat_natCast, pow_cast]
  have e2 : (1 : Int) * 2 ^ ((s : Int) + 1).toNat = ((2 ^ (s + 1) : Nat) : Int) := by rw [Int.one_mul, show ((s : Int) + 1).toNat = s + 1 by omega, pow_cast]
  have ep : 2 ^ (s + 1) = 2 ^ s * 2 := Nat.pow_succ ..
  refine ⟨_, rfl, _, _, rfl, rfl, ⟨by omega, by omega, by decide⟩, _, rfl, _, _, rfl, rfl, _, _, rfl, rfl, ⟨by omega, by omega, by decide⟩, ?_⟩
  dsimp only
  rw [e1, e2]
  refine ⟨_, _, rfl, ⟨by omega, by omega, by omega, by omega⟩, fun D nD => ?_⟩
  have en : (((2 ^ (s + 1) : Nat) : Int) - ((2 ^ s : Nat) : Int)).toNat = 2 ^ s := by omega
  rw [en]
  refine lc_selR (lo := ((2 ^ s : Nat) : Int)) (n := 2 ^ s) ((List.range (2 ^ s)).map fun i => if (2 ^ s + i) % 2 = 1 then some (V.int ((2 ^ s + i : Nat) : Int)) else none) nD (by rw [List.length_map, List.length_range]) (small1000' (by omega)) (fun x => rfl) ?_ ?_
  · intro i o H' hi ho s' Qt qt
    rw [List.getElem?_map, List.getElem?_range hi] at ho
    have ho' : (if (2 ^ s + i) % 2 = 1 then some (V.int ((2 ^ s + i : Nat) : Int)) else none) = o := Option.some.inj ho
    rw [show ((2 ^ s : Nat) : Int) + (i : Int) = ((2 ^ s + i : Nat) : Int) by omega]
    refine ⟨_, rfl, _, _, rfl, rfl, (by show (0 : Int) < 2; decide), rfl, _, rfl, ?_⟩
    by_cases c : (2 ^ s + i) % 2 = 1
    · rw [if_pos c] at ho'
      subst ho'
      exact iteET (by omega) ⟨_, rfl, qt _ (Same.refl _)⟩
    · rw [if_neg c] at ho'
      subst ho'
      exact iteEF (by omega) (qt _ (Same.refl _))
  intro H1 s1 hD
  rw [odd_sel] at hD
  generalize ess : ((List.range (2 ^ s)).map (2 ^ s + ·)).filter (fun v => decide (v % 2 = 1)) = ss at hD
  have hssm : ∀ v ∈ ss, v < 2 ^ (s + 1) := fun v hv => by
    rw [← ess] at hv
    obtain ⟨i, hi, rfl⟩ := List.mem_map.mp (List.mem_filter.mp hv).1
    have := List.mem_range.mp hi
    omega
  have hssl : ss.length ≤ 600 := by
    rw [← ess]
    have := List.length_filter_le (fun v => decide (v % 2 = 1)) ((List.range (2 ^ s)).map (2 ^ s + ·))
    rw [List.length_map, List.length_range] at this
    omega
  have hdue : (ss.filter fun v => decide (rem wd W v = 0)).map (fun v => natI (onesN v (s + 1))) = dueR wd W s := by
    unfold dueR shapesL
    rw [ess]
  refine ⟨_, rfl, D, rfl, ⟨_, .inl (.inl hD)⟩, fun D2 nD2 => ?_⟩
  refine lc_rowsL (K := K) (a := D) (xs := (natI ss).map V.int) (ss.map fun v => if rem wd W v = 0 then some (natI (onesN v (s + 1))) else none) nD2 (.inl (.inl hD)) (by rw [nat_len, List.length_map]) (by rw [nat_len]; exact small1000' (by omega)) (fun x => rfl) ?_ ?_
  · intro i x o H' hx ho s' Qt q1 q2
    obtain ⟨v, hv, rfl⟩ := nat_at hx
    rw [List.getElem?_map, hv] at ho
    have ho' : (if rem wd W v = 0 then some (natI (onesN v (s + 1))) else none) = o := Option.some.inj ho
    have hvl := hssm v (List.mem_of_getElem? hv)
    have hv1000 : v < 2 ^ 1000 := Nat.lt_of_lt_of_le hvl (Nat.pow_le_pow_right (by decide) (by omega))
    refine ⟨_, rfl, _, rfl, wd, W, v, rfl, hK, hw, hv1000, rfl, _, rfl, ?_⟩
    by_cases c : rem wd W v = 0
    · rw [if_pos c] at ho'
      refine iteET (by omega) ⟨_, rfl, v, s + 1, rfl, hvl, by omega, fun H'' p s2 np hp => ?_⟩
      exact q2 _ ho'.symm p H'' s2 np hp
    · rw [if_neg c] at ho'
      exact iteEF (by omega) (q1 ho'.symm _ (Same.refl _))
  intro H2 as s2 hD2 hN
  rw [due_sel, hdue] at hN
  have hasl := hN.1
  rw [due_len hK] at hasl
  have s02 := s1.trans s2
  have hD2S : SqL K H2 D2 (as.map V.ref) := .inl (.inl hD2)
  refine ⟨_, rfl, _, rfl, _, _, rfl, .inr ⟨a, wd, W, rfl, hC.same s02, .inr ⟨s, rfl, by omega, ?_⟩⟩⟩
  refine ⟨_, rfl, D2, _, rfl, .inl hD2S, rfl, _, rfl, ?_⟩
  rw [List.length_map]
  refine iteENF (by omega) ?_
  refine ⟨_, rfl, D2, _, rfl, .inl hD2S, _, rfl, by omega, ?_, ?_⟩
  · have := cnt_le wd s
    rw [List.length_map]
    omega
  rw [List.length_map, Int.toNat_natCast]
  refine for_range (lo := 0) (n := as.length) (fun i σ H3 => ∃ v5 v6 : Option V, σ = [some (.ref a), some (.int W), some (.int s), some (.ref D), some (.ref D2), v5, v6] ∧ Same H2 H3) ⟨none, none, rfl, Same.refl _⟩ ?_ ?_
  · rintro i σ H3 hi ⟨v5, v6, rfl, s3⟩
    rw [Int.zero_add]
    have hk : i < cntS wd s := by omega
    obtain ⟨hR, hG, hnum⟩ := shape_good hK hw hk (show s ≤ 900 by omega)
    generalize ets : onesN (shapeN wd W s i) (s + 1) = ts at hR hG hnum
    obtain ⟨ai, hai⟩ : ∃ ai, as[i]? = some ai := ⟨_, List.getElem?_eq_getElem hi⟩
    have hrow := (hN.2 i ai _ hai (due_at hK hk)).2.2
    rw [ets] at hrow
    have hat : atI (as.map V.ref) (i : Int) = some (.ref ai) := atI_nat (j := i) (by rw [List.getElem?_map, hai]; rfl)
    have s03 := s02.trans s3
    refine ⟨_, rfl, _, rfl, _, rfl, _, _, _, rfl, .inr ⟨a, wd, W, rfl, hC.same s03, .inr ⟨s, rfl, by omega, .inr ⟨i, rfl, hk, by omega, fun H4 p s4 np hp => ?_⟩⟩⟩⟩
    rw [ets] at hp
    have s34 := s3.trans s4
    refine ⟨_, rfl, _, rfl, _, rfl, D2, _, _, _, rfl, rfl, s34.seq hD2S, hat, ?_⟩
    refine ne_lst (ns := natI ts) (.inl (.inl hp)) (.inl (.inl (s34 _ _ hrow))) ⟨_, rfl, iteF ?_⟩
    have hC4 := hC.same (s03.trans s4)
    refine ⟨_, rfl, _, rfl, _, _, rfl, .inr ⟨a, wd, W, rfl, hC4, .inr ⟨p, ts, rfl, hp, hR, .inr ⟨hG, fun H5 s5 => ?_⟩⟩⟩⟩
    rw [hnum]
    refine ⟨_, rfl, rfl, _, rfl, iteENF rfl ?_⟩
    have hp5 := s5 _ _ hp
    refine ⟨_, rfl, .inl ⟨rfl, _, .inl (.inl hp5)⟩, p, _, _, rfl, rfl, hp5, by rw [nat_len]; exact small1000' (by have := hR.2.2; omega), ?_⟩
    have s36 : Same H3 (upd H5 p (.lst ((natI ts).map V.int ++ [V.non]))) := same_over np (s4.trans s5)
    generalize upd H5 p (.lst ((natI ts).map V.int ++ [V.non])) = H6 at s36
    have s06 := s03.trans s36
    refine ⟨_, rfl, _, rfl, _, rfl, _, _, _, rfl, .inr ⟨a, wd, W, rfl, hC.same s06, .inr ⟨s, rfl, by omega, .inr ⟨i, rfl, hk, by omega, fun H7 p2 s7 np2 hp2 => ?_⟩⟩⟩⟩
    rw [ets] at hp2
    have s27 := (s3.trans s36).trans s7
    refine ⟨_, rfl, _, rfl, D2, _, _, _, rfl, rfl, s27.seq hD2S, hat, ?_⟩
    refine ne_lst (ns := natI ts) (.inl (.inl hp2)) (.inl (.inl (s27 _ _ hrow))) ⟨_, rfl, iteF ?_⟩
    exact ⟨_, _, rfl, s27⟩
  · rintro σ H3 ⟨v5, v6, rfl, s3⟩
    exact q _ (s02.trans s3)
end
end My

namespace My
open PySem PySem.Spec PyProof.Rows L2 Pre
/-! ### the law: great spans -/
theorem cnt_lt (wd : Nat) {s : Nat} (h : s ≤ 900) : ((cntS wd s : Nat) : Int) < 2 ^ 2900 := by
  have h1 := cnt_le wd s
  have h2 : 2 ^ s ≤ 2 ^ 900 := Nat.pow_le_pow_right (by decide) h
  have h3 : (2 : Nat) ^ 900 < 2 ^ 2900 := by decide +kernel
  have h4 : ((cntS wd s : Nat) : Int) < ((2 ^ 2900 : Nat) : Int) := by omega
  rwa [pow_cast] at h4
local macro_rules | `(tactic| walk_at "go") => `(tactic| repeat (first | (with_reducible first | refine iteT ?_ | refine iteF ?_ | refine iteNtt ?_ | refine iteNff ?_ | refine iteET (by omega) ?_ | refine iteEF (by omega) ?_ | refine iteENT (by omega) ?_ | refine iteENF (by omega) ?_ | refine iteDT (by omega) ?_ | refine iteDF (by omega) ?_ | refine iteNT (by omega) ?_ | refine iteNF (by omega) ?_) | refine ⟨_, rfl, ?_⟩ | refine ⟨_, _, rfl, rfl, ?_⟩ | refine ⟨_, _, rfl, ?_⟩ | refine ⟨rfl, ?_⟩ | refine .inl ⟨_, rfl, ?_⟩ | refine .inr ⟨_, rfl, ?_⟩))
local macro_rules | `(tactic| walk_at "b") => `(tactic| try dsimp (config := { proj := false, iota := false, eta := false, zeta := false }) only)
section
variable {P : Program} {w : World} {K : PySem.W.Frag} {mg : Str → Option Value} {base : Heap} [pf : Sup.PF P fileS]
def sp_law_great_right (C : Addr) : Sp := fun vs H Q _ => ∃ (g a : Addr) (wd W s n : Nat), vs = [.ref g, .ref a, .int W, .int s] ∧ CheckAt C H a wd W ∧ s ≤ 400 ∧ GenAt H g n ∧ n ≤ 10 ^ 12 ∧ ∀ H', But g H H' → GenAt H' g (n + 100) → Q (.bl true) H'
theorem G_law_great_right (T : Top K mg) : FnOk P w K mg base CX0 7 T.f_law_great_right T.fd_law_great_right ["_law_generator_here", "_law_check", "_law_whole", "_law_span"] (sp_law_great_right T.C_Check) := by
  refine T.F_law_great_right.ok sc_law_great_right (fun vs H Q E h => by obtain ⟨g, a, wd, W, s, n, rfl, _⟩ := h; rfl) (fun cdv A outer s H vs Q E hr h => ?_)
  obtain ⟨g, a, wd, W, s, n, rfl, hC, hs, hg, hn, q⟩ := h
  refine ⟨_, PSs.nox (pss_cons (ps_set (i := 4) sc_law_great_right.nd rfl (by first | exact Or.inl rfl | exact Or.inr rfl) (pe_op op_sub (pe_bits (pv 2)) pe_int))
  (pss_cons (ps_set (i := 5) sc_law_great_right.nd rfl (by first | exact Or.inl rfl | exact Or.inr rfl) (pe_ix (k_ixL K rfl) (pe_lst (pa_cons pe_int (pa_cons pe_int (pa_cons (pe_op op_shl pe_int (pe_callB (call_max2 rfl) (by rfl) T.n_max (by decide +kernel) (pa_cons pe_int (pa_cons (pe_op op_sub (pe_op op_sub (pv 3) (pv 4)) pe_int) pa_nil)))) pa_nil)))) (pe_op op_add (pe_callTy call_int1 (by rfl) T.n_int (by decide +kernel) (pa_cons (pe_cmpR op_ge (pv 3) (pv 4) (nomark _)) pa_nil)) (pe_callTy call_int1 (by rfl) T.n_int (by decide +kernel) (pa_cons (pe_cmpR op_gt (pv 3) (pv 4) (nomark _)) pa_nil))) (fun _ _ => rfl)))
  (pss_cons (ps_if (pt_cmpR op_ne (pe_call (G_how_many_shapes (P := P) T) (hr.mono (by decide)) (by rfl) T.g_how_many_shapes T.F_how_many_shapes.kp T.b_how_many_shapes .nil passL (pa_cons (pv 1) (pa_cons (pv 3) pa_nil))) (pv 5) (nomark _))
    (pss_one (ps_ret pe_bl))
    pss_nil)
  (pss_cons (ps_set (i := 6) sc_law_great_right.nd rfl (by first | exact Or.inl rfl | exact Or.inr rfl) pe_int)
  (pss_cons (ps_for PassesOwn.never rfl (k_piL K rfl (pe_slice (k_slL K rfl) (pe_callB (k_sortedI K rfl) (by rfl) T.n_sorted (by decide +kernel) (pa_cons (pe_lst (pa_cons (pe_call (G_law_random (P := P) T) (hr.mono (by decide)) (by rfl) T.g_law_random T.F_law_random.kp T.b_law_random .nil pass0 (pa_cons (pv 0) (pa_cons (pe_callB (call_max2 rfl) (by rfl) T.n_max (by decide +kernel) (pa_cons pe_int (pa_cons (pv 5) pa_nil))) pa_nil))) (pa_cons pe_int (pa_cons (pe_op op_sub (pv 5) pe_int) (pa_cons (pe_op op_fdivW (pv 5) pe_int) pa_nil))))) pa_nil)) (po_some (pe_op op_mul pe_int (pe_callTy call_int1 (by rfl) T.n_int (by decide +kernel) (pa_cons (pe_cmpR op_eq (pv 5) pe_int (nomark _)) pa_nil)))) po_none)) (pg_name (i := 7) sc_law_great_right.nd rfl (by first | exact Or.inl rfl | exact Or.inr rfl))
    (pss_cons (ps_set (i := 8) sc_law_great_right.nd rfl (by first | exact Or.inl rfl | exact Or.inr rfl) (pe_call (G_shape_at (P := P) T) (hr.mono (by decide)) (by rfl) T.g_shape_at T.F_shape_at.kp T.b_shape_at .nil passL (pa_cons (pv 1) (pa_cons (pv 3) (pa_cons (pv 7) pa_nil)))))
  (pss_cons (ps_set (i := 9) sc_law_great_right.nd rfl (by first | exact Or.inl rfl | exact Or.inr rfl) (pe_callB (k_sum K rfl rfl) (by rfl) T.n_sum (by decide +kernel) (pa_cons (pe_lc (own := [("_law_place", 10)]) (g := gName 10) (tt := tYes) (by rfl) sc_law_great_right.nd (k_piL K rfl (pv 8)) (blkOk_by (own := [("_law_place", 10)]) (N := N_law_great_right) (sc := defScope s_law_great_right) (by decide +kernel)) (fun _ _ _ _ _ => (pg_name (i := 10) sc_law_great_right.nd rfl (by first | exact Or.inl rfl | exact Or.inr rfl))) (fun _ _ _ _ _ => pts_nil) (fun _ _ _ _ _ => (pe_op op_shl pe_int (pv 10)))) pa_nil)))
  (pss_cons (ps_if (PW.pt (pw_or (pt_cmpR (k_neD K rfl hr.units) (pv 8) (pe_call (G_law_places (P := P) T) (hr.mono (by decide)) (by rfl) T.g_law_places T.F_law_places.kp T.b_law_places .nil pass0 (pa_cons (pv 9) pa_nil)) (nomark _)) (pw_or (pt_cmpR op_ne (pe_ix (k_ixL K rfl) (pv 8) pe_int (fun _ _ => rfl)) pe_int (nomark _)) (pw_or (pt_cmpR op_ne (pe_ix (k_ixL K rfl) (pv 8) (pe_un un_neg pe_int) (fun _ _ => rfl)) (pv 3) (nomark _)) (pw_or1 (pt_cmpR op_ne (pe_call (G_law_rest (P := P) T) (hr.mono (by decide)) (by rfl) T.g_law_rest T.F_law_rest.kp T.b_law_rest .nil pass0 (pa_cons (pv 2) (pa_cons (pv 9) pa_nil))) pe_int (nomark _)))))))
    (pss_one (ps_ret pe_bl))
    pss_nil)
  (pss_cons (ps_if (PW.pt (pw_or (pt_cmpR op_lt (pv 9) (pv 6) (nomark _)) (pw_or (pt_cmpR op_isnot_bl (pe_call (G_unseen (P := P) T) (hr.mono (by decide)) (by rfl) T.g_unseen T.F_unseen.kp T.b_unseen .nil pass0 (pa_cons (pv 1) (pa_cons (pv 8) pa_nil))) pe_bl (nomark _)) (pw_or1 (pt_cmpR op_ne (pe_call (G_shape_number (P := P) T) (hr.mono (by decide)) (by rfl) T.g_shape_number T.F_shape_number.kp T.b_shape_number .nil passL (pa_cons (pv 1) (pa_cons (pv 8) pa_nil))) (pv 7) (nomark _))))))
    (pss_one (ps_ret pe_bl))
    pss_nil)
  (pss_cons (ps_if (PW.pt (pw_and (pt_cmpR op_gt (pv 3) (pv 4) (nomark _)) (pw_and1 (pt_cmpR op_ne (pe_op op_shr (pv 9) (pe_op op_add (pv 4) pe_int)) (pe_op op_add (pe_op op_shl pe_int (pe_op op_sub (pe_op op_sub (pv 3) (pv 4)) pe_int)) (pv 7)) (nomark _)))))
    (pss_one (ps_ret pe_bl))
    pss_nil)
  (pss_one (ps_set (i := 6) sc_law_great_right.nd rfl (by first | exact Or.inl rfl | exact Or.inr rfl) (pv 9)))))))))
  (pss_one (ps_ret pe_bl))))))), ?_⟩
  obtain ⟨hK, hw, dx, ha⟩ := id hC
  have ag : a ≠ g := by
    obtain ⟨x1, x2, x3, e, _⟩ := id hg
    exact hC.ne e
  have ebl : ((Builtin.Int.intBits (W : Int) : Nat) : Int) - 1 = (wd : Int) := by rw [bl_W hK]; omega
  refine ⟨_, rfl, _, rfl, _, _, rfl, rfl, ?_⟩
  walk_at "b"
  rw [ebl]
  obtain ⟨mx, hmx⟩ : ∃ mx : Nat, (mx : Int) = if (s : Int) - wd - 1 > 0 then (s : Int) - wd - 1 else 0 := ⟨(if (s : Int) - wd - 1 > 0 then (s : Int) - wd - 1 else 0).toNat, by split <;> omega⟩
  have emx : wd < s → mx = s - wd - 1 := fun h => by split at hmx <;> omega
  have hmx9 : mx ≤ 900 := by split at hmx <;> omega
  refine ⟨_, rfl, _, rfl, _, _, rfl, rfl, _, _, rfl, rfl, _, _, rfl, ?_⟩
  walk_at "b"
  rw [← hmx]
  refine ⟨_, _, rfl, rfl, ⟨by omega, by omega, by decide⟩, (show 3 ≤ sizeLine by decide), fun p np => ?_⟩
  walk_at "b"
  rw [show (1 : Int) * 2 ^ ((mx : Int)).toNat = ((2 ^ mx : Nat) : Int) by rw [Int.one_mul, Int.toNat_natCast, pow_cast]]
  obtain ⟨H1, e1, s1, hp⟩ := fresh (.lst [V.int 0, V.int 1, V.int ((2 ^ mx : Nat) : Int)]) np
  rw [e1]
  refine ⟨_, rfl, _, rfl, _, _, rfl, rfl, .inr ⟨_, rfl, _, rfl, _, rfl, _, _, rfl, rfl, .inr ⟨_, rfl, _, _, rfl, rfl, ?_⟩⟩⟩
  have hidx : atI [V.int 0, V.int 1, V.int ((2 ^ mx : Nat) : Int)] ((if decide ((wd : Int) ≤ s) = true then (1 : Int) else 0) + (if decide ((wd : Int) < s) = true then (1 : Int) else 0)) = some (.int (cntS wd s : Nat)) := by
    unfold cntS
    rcases Nat.lt_trichotomy wd s with c | c | c
    · rw [decide_eq_true (show (wd : Int) ≤ s by omega), decide_eq_true (show (wd : Int) < s by omega), if_pos c, ← emx c]
      rfl
    · rw [decide_eq_true (show (wd : Int) ≤ s by omega), decide_eq_false (show ¬ (wd : Int) < s by omega), if_neg (show ¬ wd < s by omega), if_pos c.symm]
      rfl
    · rw [decide_eq_false (show ¬ (wd : Int) ≤ s by omega), decide_eq_false (show ¬ (wd : Int) < s by omega), if_neg (show ¬ wd < s by omega), if_neg (show ¬ s = wd by omega)]
      rfl
  refine ⟨p, _, _, _, rfl, rfl, .inl (.inl hp), hidx, ?_⟩
  have hC1 := hC.same s1
  refine ⟨_, rfl, _, rfl, _, _, rfl, .inr ⟨a, wd, W, rfl, hC1, .inr ⟨s, rfl, by omega, _, rfl, rfl, _, rfl, iteENF rfl ?_⟩⟩⟩
  generalize hc : cntS wd s = cnt at *
  have hcb : (cnt : Int) < 2 ^ 2900 := by rw [← hc]; exact cnt_lt wd (by omega)
  have hg1 := hg.same s1
  obtain ⟨bd, hbd⟩ : ∃ bd : Int, bd = if (cnt : Int) > 1 then (cnt : Int) else 1 := ⟨_, rfl⟩
  have hbd1 : 0 < bd ∧ bd < 2 ^ 2900 ∧ (0 < cnt → bd = cnt) := by
    have : (1 : Int) < 2 ^ 2900 := by decide +kernel
    rw [hbd]
    split <;> refine ⟨by omega, by omega, fun _ => by omega⟩
  refine ⟨_, rfl, _, rfl, _, _, rfl, ?_⟩
  walk_at "b"
  rw [← hbd]
  refine ⟨g, bd, n, rfl, hg1, hn, hbd1.1, hbd1.2.1, fun d H2 d0 d1 hg2 b2 => ?_⟩
  have hdiv : CDivW (cnt : Int) 2 := wide_div (b := 1000) (by decide) (by decide) (by decide) (by decide)
  refine ⟨_, rfl, _, _, rfl, rfl, _, rfl, _, _, rfl, rfl, hdiv, (show 4 ≤ sizeLine by decide), fun p2 np2 => ?_⟩
  walk_at "b"
  obtain ⟨H3, e3, s3, hp2⟩ := fresh (.lst (([d, 0, (cnt : Int) - 1, (cnt : Int) / 2] : List Int).map V.int)) np2
  rw [show upd H2 p2 (.lst [V.int d, V.int 0, V.int ((cnt : Int) - 1), V.int ((cnt : Int) / 2)]) = H3 from e3]
  refine ⟨p2, [d, 0, (cnt : Int) - 1, (cnt : Int) / 2], rfl, .inl (.inl hp2), fun ms pl hperm hpw npl => ?_⟩
  obtain ⟨H4, e4, s4, hpl⟩ := fresh (.lst (ms.map V.int)) npl
  rw [e4]
  have hml : ms.length = 4 := hperm.length_eq
  have hmr : 0 < cnt → ∀ x ∈ ms, 0 ≤ x ∧ x < cnt := fun h0 x hx => by
    have := hbd1.2.2 h0
    have hx := hperm.mem_iff.mp hx
    simp only [List.mem_cons, List.not_mem_nil, or_false] at hx
    omega
  obtain ⟨k4, hk4⟩ : ∃ k4 : Bool, k4 = decide (V.int (cnt : Int) = V.int 0) := ⟨_, rfl⟩
  obtain ⟨xs, hxs, hx1, hx0⟩ : ∃ xs : List Int, cutV (ms.map V.int) (some (4 * (if k4 = true then (1 : Int) else 0))) none = xs.map V.int ∧ (0 < cnt → xs = ms) ∧ (cnt = 0 → xs = []) := by
    by_cases c : cnt = 0
    · refine ⟨[], ?_, by omega, fun _ => rfl⟩
      rw [hk4, c, decide_eq_true (show V.int ((0 : Nat) : Int) = V.int 0 from rfl)]
      show cutV (ms.map V.int) (some ((4 : Nat) : Int)) none = _
      rw [cut_drop, ← List.map_drop, ← hml, List.drop_length]
    · refine ⟨ms, ?_, fun _ => rfl, fun z => absurd z c⟩
      rw [hk4, decide_eq_false (show ¬ V.int (cnt : Int) = V.int 0 from fun z => c (by have := V.int.inj z; omega))]
      show cutV (ms.map V.int) (some ((0 : Nat) : Int)) none = _
      rw [cut_drop, List.drop_zero]
  refine ⟨_, rfl, rfl, .inr ⟨_, rfl, _, _, rfl, rfl, .inr ⟨by split <;> omega, by split <;> omega⟩, _, rfl, pl, _, rfl, .inl (.inl hpl), fun c nc => ?_⟩⟩
  walk_at "b"
  rw [← hk4, hxs]
  obtain ⟨H5, e5, s5, hcx⟩ := fresh (.lst (xs.map V.int)) nc
  rw [e5]
  have s25 := (s3.trans s4).trans s5
  have b05 : But g H H5 := ((But.of s1).trans b2).same s25
  have hg5 : GenAt H5 g (n + 100) := hg2.same s25
  have hC5 : CheckAt T.C_Check H5 a wd W := hC.but ag b05
  have hxm : ∀ x ∈ xs, ∃ k : Nat, x = (k : Int) ∧ k < cnt := fun x hx => by
    by_cases c : cnt = 0
    · rw [hx0 c] at hx; cases hx
    · have h0 : 0 < cnt := by omega
      rw [hx1 h0] at hx
      have := hmr h0 x hx
      exact ⟨x.toNat, by omega, by omega⟩
  have hxp : xs.Pairwise (· ≤ ·) := by
    by_cases c : cnt = 0
    · rw [hx0 c]; exact List.Pairwise.nil
    · rw [hx1 (by omega)]; exact hpw
  have hxl : xs.length ≤ 4 := by
    by_cases c : cnt = 0
    · rw [hx0 c]; decide
    · rw [hx1 (by omega), hml]; decide
  refine ⟨c, rfl, ⟨_, .inl (.inl hcx)⟩, for_list (K := K) (a := c) (xs := xs.map V.int) (fun i σ H6 => ∃ (b : Nat) (v7 v8 v9 : Option V), σ = [some (.ref g), some (.ref a), some (.int W), some (.int s), some (.int wd), some (.int cnt), some (.int b), v7, v8, v9, none] ∧ Same H5 H6 ∧ ∀ k : Nat, xs[i]? = some (k : Int) → b ≤ shapeN wd W s k)
    ⟨0, none, none, none, rfl, Same.refl _, fun _ _ => Nat.zero_le _⟩ (fun i σ H6 _ ⟨_, _, _, _, _, s, _⟩ => s.seq (.inl (.inl hcx))) ?_ ?_⟩
  · rintro i x σ H6 hx ⟨b, v7, v8, v9, rfl, s6, hb⟩
    obtain ⟨x, hxi, rfl⟩ := int_at hx
    obtain ⟨k, rfl, hk⟩ := hxm x (List.mem_of_getElem? hxi)
    have hbk := hb k hxi
    rw [← hc] at hk
    obtain ⟨hR, hG, hnum⟩ := shape_good hK hw hk (show s ≤ 900 by omega)
    have hsh := shape_is hK hk
    have hmono : ∀ k' : Nat, xs[i + 1]? = some (k' : Int) → shapeN wd W s k ≤ shapeN wd W s k' := fun k' h' => by
      obtain ⟨h1, e1⟩ := List.getElem?_eq_some_iff.mp hxi
      obtain ⟨h2, e2⟩ := List.getElem?_eq_some_iff.mp h'
      have hle := List.pairwise_iff_getElem.mp hxp i (i + 1) h1 h2 (by omega)
      rw [e1, e2] at hle
      obtain ⟨k2, e3, hk2⟩ := hxm _ (List.mem_of_getElem? h')
      have : k2 = k' := by omega
      subst this
      by_cases e : k = k2
      · rw [e]; exact Nat.le_refl _
      · exact Nat.le_of_lt (shape_mono hK (by omega) (by omega))
    have s56 := s6
    refine ⟨_, rfl, _, rfl, _, rfl, _, _, _, rfl, .inr ⟨a, wd, W, rfl, hC5.same s6, .inr ⟨s, rfl, by omega, .inr ⟨k, rfl, hk, by omega, fun H7 t s7 nt ht => ?_⟩⟩⟩⟩
    have hlast : (onesN (shapeN wd W s k) (s + 1)).getLast? = some s := by
      rw [ones_last hsh.lt hsh.top, List.getLast?_append]
      rfl
    have hones : ((onesN (shapeN wd W s k) (s + 1)).map fun i => 2 ^ i).sum = shapeN wd W s k := by rw [ones_sum, Nat.mod_eq_of_lt hsh.lt]
    generalize hv : shapeN wd W s k = v at *
    generalize ets : onesN v (s + 1) = ts at hR hG hnum ht hlast hones
    have s57 := s6.trans s7
    have htl : ts.length ≤ 1000 := hR.2.2
    have hts : ∀ t ∈ ts, t ≤ 1000 := fun t ht => by
      rw [← ets] at ht
      have := (ones_mem.mp ht).1
      omega
    have hv1000 : v < 2 ^ 1000 := Nat.lt_of_lt_of_le hsh.lt (Nat.pow_le_pow_right (by decide) (by omega))
    refine ⟨_, rfl, t, rfl, ⟨_, .inl (.inl ht)⟩, fun D nD => ?_⟩
    refine lc_mapL (K := K) (a := t) (xs := (natI ts).map V.int) ((ts.map fun i => ((2 ^ i : Nat) : Int)).map V.int) nD (.inl (.inl ht)) (by rw [nat_len, List.length_map, List.length_map]) (by rw [nat_len]; exact small1000' (by omega)) (fun x => rfl) ?_ ?_
    · intro i x y H' hx hy s Qt qt
      obtain ⟨u, hu, rfl⟩ := nat_at hx
      rw [List.getElem?_map, List.getElem?_map, hu] at hy
      cases hy
      have := hts u (List.mem_of_getElem? hu)
      refine ⟨_, rfl, _, _, rfl, rfl, ⟨by omega, by omega, by decide⟩, ?_⟩
      dsimp only
      rw [Int.one_mul, Int.toNat_natCast, ← pow_cast]
      exact qt _ (Same.refl _)
    intro H8 s8 hD
    refine ⟨D, _, rfl, .inl (.inl hD), ?_⟩
    rw [sum_cast, hones]
    refine ⟨_, rfl, _, rfl, v, s + 1, rfl, hsh.lt, by omega, fun H9 t2 s9 nt2 ht2 => ?_⟩
    rw [ets] at ht2
    have ht9 := s9 _ _ (s8 _ _ ht)
    have hT9 : SqL K H9 t ((natI ts).map V.int) := .inl (.inl ht9)
    have s59 := (s57.trans s8).trans s9
    have hC9 := hC5.same s59
    refine ne_lst (ns := natI ts) hT9 (.inl (.inl ht2)) ⟨_, rfl, iteF ?_⟩
    have hat0 : atI ((natI ts).map V.int) 0 = some (.int 0) := by
      have h0 := hG.1
      cases hh : ts with
      | nil => rw [hh] at h0; cases h0
      | cons t0 r =>
        rw [hh] at h0
        have : t0 = 0 := Option.some.inj h0
        subst this
        exact atI_nat (j := 0) rfl
    refine ⟨_, rfl, t, _, _, _, rfl, rfl, hT9, hat0, rfl, _, rfl, iteENF rfl ?_⟩
    refine ⟨_, rfl, _, rfl, t, _, _, _, rfl, rfl, hT9, nat_last hlast, _, rfl, rfl, _, rfl, iteENF rfl ?_⟩
    refine ⟨_, rfl, _, rfl, wd, W, v, rfl, hK, hw, hv1000, rfl, _, rfl, iteENF (by rw [hsh.rem0]; rfl) ?_⟩
    refine ⟨_, rfl, _, rfl, _, _, rfl, rfl, _, rfl, iteDF (by omega) ?_⟩
    refine ⟨_, rfl, _, rfl, a, t, wd, W, ts, rfl, hC9, ht9, hR, fun H10 s10 => ?_⟩
    rw [decide_eq_true hG.2.2]
    refine ⟨_, _, rfl, rfl, _, rfl, iteNF rfl ?_⟩
    refine ⟨_, rfl, _, rfl, _, _, rfl, .inr ⟨a, wd, W, rfl, hC9.same s10, .inr ⟨t, ts, rfl, s10 _ _ ht9, hR, .inr ⟨hG, fun H11 s11 => ?_⟩⟩⟩⟩
    rw [hnum]
    refine ⟨_, rfl, rfl, _, rfl, iteENF rfl ?_⟩
    have s511 := (s59.trans s10).trans s11
    refine ⟨_, rfl, _, rfl, _, _, rfl, rfl, _, rfl, ?_⟩
    by_cases cw : wd < s
    · refine iteDT (by omega) ?_
      have el : (v : Int) / 2 ^ ((wd : Int) + 1).toNat = ((v >>> (wd + 1) : Nat) : Int) := by
        rw [show (wd : Int) + 1 = ((wd + 1 : Nat) : Int) by omega]
        exact shrI v (wd + 1)
      have er : (1 : Int) * 2 ^ ((s : Int) - (wd : Int) - 1).toNat + (k : Int) = ((2 ^ (s - wd - 1) + k : Nat) : Int) := by
        rw [Int.one_mul, show ((s : Int) - (wd : Int) - 1).toNat = s - wd - 1 by omega, ← pow_cast]
        omega
      refine ⟨_, rfl, _, rfl, _, _, rfl, rfl, _, _, rfl, rfl, by omega, _, rfl, _, rfl, _, _, rfl, rfl, _, _, rfl, rfl, _, _, rfl, rfl, ⟨by omega, by omega, by decide⟩, _, rfl, _, _, rfl, rfl, rfl, _, rfl, iteENF (el.trans (by rw [hsh.num cw]; exact er.symm)) ?_⟩
      exact ⟨_, rfl, v, _, _, _, rfl, s511, hmono⟩
    · refine iteDF (by omega) ?_
      exact ⟨_, rfl, v, _, _, _, rfl, s511, hmono⟩
  · rintro σ H6 ⟨b, v7, v8, v9, rfl, s6, hb⟩
    exact q _ (b05.same s6) (hg5.same s6)
end
end My

namespace My
open PySem PySem.Spec PyProof.Rows L2 Pre
/-! ### what the law catches -/
/-- what is shown of a thing -/
def Shw (K : PySem.W.Frag) (H : Hp) (x : V) (t : Str) : Prop := ∃ d, Dp K H x d ∧ d.showable = true ∧ SeqAt.shaped d = true ∧ d.shown.length ≤ sizeLine ∧ t = d.shown
theorem Shw.same {K : PySem.W.Frag} {H H' : Hp} {x : V} {t : Str} (s : Same H H') (h : Shw K H x t) : Shw K H' x t := by
  obtain ⟨d, hd, h⟩ := h
  exact ⟨d, Pre.dp_same s _ _ hd, h⟩
theorem Shw.repr {K : PySem.W.Frag} {H : Hp} {x : V} {t : Str} {Q : VK} (h : Shw K H x t) (q : Q (.str t) H) : rReprX K [x] H Q := by
  obtain ⟨d, hd, h1, h2, h3, rfl⟩ := h
  exact .inl ⟨x, d, rfl, hd, h1, h2, h3, q⟩
theorem pair_shaped {a t : Str} (ha : PyData.strOk a = true) (ht : PyData.strOk t = true) : SeqAt.shaped (.list [.str a, .str t]) = true := by
  simp [SeqAt.shaped, PyData.canLay0, PyData.canLayAll0, PyData.depth, PyData.depthAll, ha, ht]
theorem pair_eqv (a t : Str) : PyData.eqv (.list [.str a, .str t]) (.list [.str a, .str t]) = true := by
  simp [PyData.eqv, PyData.eqvAll]
theorem shw_ok {K : PySem.W.Frag} {H : Hp} {x : V} {d : PyData} (hd : Dp K H x d) (h : (d.showable && SeqAt.shaped d && decide (d.shown.length ≤ sizeLine) && PyData.strOk d.shown) = true) : ∃ t, Shw K H x t ∧ PyData.strOk t = true := by
  rw [Bool.and_eq_true, Bool.and_eq_true, Bool.and_eq_true] at h
  exact ⟨_, ⟨d, hd, h.1.1.1, h.1.1.2, of_decide_eq_true h.1.2, rfl⟩, h.2⟩
/-- two ways to a value, one way on -/
theorem join_te {c : Bool} {te1 te2 : TE} {σ : L2.St} {H : Hp} {R : VK} (Pv : V → Hp → Prop) (h1 : c = true → ∀ R' : VK, (∀ v H', Pv v H' → R' v H') → te1 σ H R') (h2 : c = false → ∀ R' : VK, (∀ v H', Pv v H' → R' v H') → te2 σ H R') (cont : ∀ v H', Pv v H' → R v H') : if c = true then te1 σ H R else te2 σ H R := by
  cases c with
  | true => exact h1 rfl R cont
  | false => exact h2 rfl R cont
/-- what is shown of a thing, an empty dict, too -/
def ShwX (K : PySem.W.Frag) (H : Hp) (x : V) (t : Str) : Prop := Shw K H x t ∨ ∃ a : Addr, x = .ref a ∧ H a = some (.dK []) ∧ t = (PyData.dict []).shown
theorem ShwX.same {K : PySem.W.Frag} {H H' : Hp} {x : V} {t : Str} (s : Same H H') (h : ShwX K H x t) : ShwX K H' x t := by
  rcases h with h | ⟨a, e, ha, k⟩
  · exact .inl (h.same s)
  · exact .inr ⟨a, e, s _ _ ha, k⟩
theorem ShwX.repr {K : PySem.W.Frag} {H : Hp} {x : V} {t : Str} {Q : VK} (h : ShwX K H x t) (q : Q (.str t) H) : rReprX K [x] H Q := by
  rcases h with h | ⟨a, rfl, ha, rfl⟩
  · exact h.repr q
  · exact .inr ⟨a, rfl, ha, q⟩
theorem shx_ok {K : PySem.W.Frag} {H : Hp} {x : V} {d : PyData} (hd : Dp K H x d) (h : (d.showable && SeqAt.shaped d && decide (d.shown.length ≤ sizeLine) && PyData.strOk d.shown) = true) : ∃ t, ShwX K H x t ∧ PyData.strOk t = true := by
  obtain ⟨t, h1, h2⟩ := shw_ok hd h
  exact ⟨t, .inl h1, h2⟩
theorem shx_dict {K : PySem.W.Frag} {H : Hp} {a : Addr} (h : H a = some (.dK [])) : ∃ t, ShwX K H (.ref a) t ∧ PyData.strOk t = true := ⟨_, .inr ⟨a, rfl, h, rfl⟩, by decide +kernel⟩

def tagS : Nat → Str
  | 0 => (("check" : String) : Str)
  | 1 => (("number" : String) : Str)
  | _ => (("places" : String) : Str)
/-- door k refuses v by the error j -/
def Fails (K : PySem.W.Frag) (C : Addr) (H : Hp) (k : Nat) (c u x : V) (j : Nat) (v : V) : Prop :=
  (j = 0 ∧ v = c ∧ NoC K H c) ∨ ∃ (a : Addr) (wd W : Nat), c = .ref a ∧ CheckAt C H a wd W ∧
    ((j = 1 ∧ k < 2 ∧ v = u ∧ NumV K H u 0 (some 1000) false) ∨ (j = 1 ∧ k = 1 ∧ v = x ∧ ∃ s : Nat, u = .int s ∧ s ≤ 1000 ∧ NumV K H x 0 (some (((cntS wd s : Nat) : Int) - 1)) false) ∨
     (j = 2 ∧ k = 2 ∧ v = u ∧ (BadP K H u ∨ ∃ (b : Addr) (ts : List Nat), u = .ref b ∧ H b = some (.lst ((natI ts).map V.int)) ∧ Rising ts ∧ BadShape wd W ts)))
local macro_rules | `(tactic| walk_at "go") => `(tactic| repeat (first | (with_reducible first | refine iteT ?_ | refine iteF ?_ | refine iteNtt ?_ | refine iteNff ?_ | refine iteET (by omega) ?_ | refine iteEF (by omega) ?_ | refine iteENT (by omega) ?_ | refine iteENF (by omega) ?_ | refine iteDT (by omega) ?_ | refine iteDF (by omega) ?_ | refine iteNT (by omega) ?_ | refine iteNF (by omega) ?_) | refine ⟨_, rfl, ?_⟩ | refine ⟨_, _, rfl, rfl, ?_⟩ | refine ⟨_, _, rfl, ?_⟩ | refine ⟨rfl, ?_⟩ | refine .inl ⟨_, rfl, ?_⟩ | refine .inr ⟨_, rfl, ?_⟩))
local macro_rules | `(tactic| walk_at "b") => `(tactic| try dsimp (config := { proj := false, iota := false, eta := false, zeta := false }) only)
section
variable {P : Program} {w : World} {K : PySem.W.Frag} {mg : Str → Option Value} {base : Heap} [pf : Sup.PF P fileS]
def sp_law_caught (K : PySem.W.Frag) (C : Addr) : Sp := fun vs H Q _ => ∃ (k : Nat) (c u x : V), vs = [.int k, c, u, x] ∧ k < 3 ∧
  ((∃ (j : Nat) (v : V) (t : Str), Fails K C H k c u x j v ∧ ShwX K H v t ∧ ∀ H' p, Same H H' → H p = none → H' p = some (.lst [.str (tagS j), .str t]) → Q (.ref p) H') ∨
   (k = 2 ∧ ∃ (a b : Addr) (wd W : Nat) (ts : List Nat), c = .ref a ∧ CheckAt C H a wd W ∧ u = .ref b ∧ H b = some (.lst ((natI ts).map V.int)) ∧ Rising ts ∧ GoodShape wd W ts ∧ ∀ H' p, Same H H' → H p = none → H' p = some (.lst [.str (("let" : String) : Str)]) → Q (.ref p) H'))
theorem G_law_caught (T : Top K mg) : FnG P w K mg base CX0 7 T.f_law_caught T.fd_law_caught ["_law_door", "_law_check", "_law_span", "_law_number"] (sp_law_caught K T.C_Check) := by
  refine FnG.body T.F_law_caught sc_law_caught (fun vs H Q E h => by obtain ⟨k, c, u, x, rfl, _⟩ := h; rfl) (fun cdv A outer s H vs Q E gd hr h => ?_)
  obtain ⟨k, c, u, x, rfl, hk, h⟩ := h
  refine ⟨_, PSs.nox (pss_cons (ps_try_manyAs (i := 4) rfl rfl sc_law_caught.nd rfl rfl takes_none5 (fun W pn xe tk po => (pss_one (ps_if (pt_cmpR op_eq (pv 0) pe_int (nomark _))
    (pss_one (ps_expr (pe_callS (G_how_many_shapes (P := P) T) (hr.mono (by decide)) (by rfl) T.g_how_many_shapes T.F_how_many_shapes.kp T.b_how_many_shapes (fun σ => passAt tk σ) (pa_cons (pv 1) (pa_cons (pv 2) pa_nil)))))
    (pss_one (ps_if (pt_cmpR op_eq (pv 0) pe_int (nomark _))
    (pss_one (ps_expr (pe_callS (G_shape_at (P := P) T) (hr.mono (by decide)) (by rfl) T.g_shape_at T.F_shape_at.kp T.b_shape_at (fun σ => passAt tk σ) (pa_cons (pv 1) (pa_cons (pv 2) (pa_cons (pv 3) pa_nil))))))
    (pss_one (ps_expr (pe_callS (G_shape_number (P := P) T) (hr.mono (by decide)) (by rfl) T.g_shape_number T.F_shape_number.kp T.b_shape_number (fun σ => passAt tk σ) (pa_cons (pv 1) (pa_cons (pv 2) pa_nil))))))))))
    (HdsAs.cons ⟨by rfl, by decide, .inl T.gc_SoundError⟩ (fun a oe cls d pn hz hf => (pss_cons (ps_set (i := 5) sc_law_caught.nd rfl (by first | exact Or.inl rfl | exact Or.inr rfl) (pe_lst (pa_cons (pe_callB (k_isiA K rfl hz hf) (by rfl) T.n_isinstance (by decide +kernel) (pa_cons (pv 4) (pa_cons (pe_glob (v := .ref T.C_InvalidCheck) rfl T.gc_InvalidCheck rfl) pa_nil))) (pa_cons (pe_callB (k_isiA K rfl hz hf) (by rfl) T.n_isinstance (by decide +kernel) (pa_cons (pv 4) (pa_cons (pe_glob (v := .ref T.C_InvalidNumber) rfl T.gc_InvalidNumber rfl) pa_nil))) (pa_cons (pe_callB (k_isiA K rfl hz hf) (by rfl) T.n_isinstance (by decide +kernel) (pa_cons (pv 4) (pa_cons (pe_glob (v := .ref T.C_InvalidPlaces) rfl T.gc_InvalidPlaces rfl) pa_nil))) pa_nil)))))
  (pss_cons (ps_if (PW.pt (pw_or (pt_cmpR op_ne (k_bm K rfl PySem.F.plainAttrs_list PySem.F.slot_list_count PySem.F.type_list_count (k_countF K rfl) (pv 5) (pa_cons pe_bl pa_nil)) pe_int (nomark _)) (pw_or1 (pt_not (pt_val (pe_callB (k_isiA K rfl hz hf) (by rfl) T.n_isinstance (by decide +kernel) (pa_cons (pv 4) (pa_cons (pe_bltn (v := .ty "ValueError") (by rfl) T.n_ValueError (by decide +kernel) rfl) pa_nil))))))))
    (pss_one (ps_ret (pe_lst (pa_cons pe_str pa_nil))))
    pss_nil)
  (pss_one (ps_ret (pe_lst (pa_cons (pe_ix (k_ixL K rfl) (pe_lst (pa_cons pe_str (pa_cons pe_str (pa_cons pe_str pa_nil)))) (k_bm K rfl PySem.F.plainAttrs_list PySem.F.slot_list_index PySem.F.type_list_index (k_index K rfl) (pv 5) (pa_cons pe_bl pa_nil)) (fun _ _ => rfl)) (pa_cons (pe_callB (k_reprX K rfl (by have h := gd; exact h) (by have h := hu65 hr; exact h)) (by rfl) T.n_repr (by decide +kernel) (pa_cons (pe_xfA hz hf (pv 4)) pa_nil)) pa_nil)))))))) HdsAs.nil))
  (pss_one (ps_ret (pe_lst (pa_cons pe_str pa_nil))))), ?_⟩
  rcases h with ⟨j, v, t, hf, hsh, q⟩ | ⟨rfl, a, b, wd, W, ts, rfl, hC, rfl, hB, hR, hG, q⟩
  · rcases hf with ⟨rfl, rfl, hv⟩ | ⟨a0, wd, W, rfl, hC, ⟨rfl, hk2, rfl, hu⟩ | ⟨rfl, rfl, rfl, s, rfl, hs, hx⟩ | ⟨rfl, rfl, rfl, hu⟩⟩
    · obtain rfl | rfl | rfl : k = 0 ∨ k = 1 ∨ k = 2 := by omega
      · refine ⟨_, rfl, rfl, _, rfl, iteDT rfl ⟨_, rfl, _, rfl, _, _, rfl, .inl ⟨hv, fun H2 dd s2 nd => ?_⟩⟩⟩
        refine ⟨true, T.em_InvalidCheck_SoundError, fun _ a na => ?_, fun z => nomatch z⟩
        have s3 := same_upd (o := .xd [("value", v)]) nd
        have hdd : (upd H2 dd (.xd [("value", v)])) dd = some (.xd [("value", v)]) := upd_same
        generalize upd H2 dd (.xd [("value", v)]) = H3 at s3 hdd na
        refine ⟨_, rfl, T.C_InvalidCheck, dd, _, _, _, true, rfl, rfl, rfl, hdd, T.ei_InvalidCheck, .own _, T.ki_InvalidCheck_InvalidCheck, _, rfl, T.C_InvalidCheck, dd, _, _, _, false, rfl, rfl, rfl, hdd, T.ei_InvalidCheck, .own _, T.ki_InvalidCheck_InvalidNumber, _, rfl, T.C_InvalidCheck, dd, _, _, _, false, rfl, rfl, rfl, hdd, T.ei_InvalidCheck, .own _, T.ki_InvalidCheck_InvalidPlaces, (show 3 ≤ sizeLine by decide), fun l nl => ?_⟩
        obtain ⟨H4, e4, s4, hl⟩ := fresh (.lst [V.bl true, V.bl false, V.bl false]) nl
        rw [e4]
        have hdd4 := s4 _ _ hdd
        have hL : SqL K H4 l [V.bl true, V.bl false, V.bl false] := .inl (.inl hl)
        refine ⟨_, rfl, .inl ⟨rfl, _, hL⟩, l, _, _, rfl, rfl, hL, rfl, rfl, rfl, _, rfl, iteENF rfl ?_⟩
        refine ⟨_, rfl, T.C_InvalidCheck, dd, _, _, _, true, rfl, rfl, rfl, hdd4, T.ei_InvalidCheck, .ty _, T.kv_InvalidCheck, true, rfl, iteNtt ?_⟩
        refine ⟨(show 3 ≤ sizeLine by decide), fun l2 nl2 => ?_⟩
        obtain ⟨H5, e5, s5, hl2⟩ := fresh (.lst [V.str (("check" : String) : Str), V.str (("number" : String) : Str), V.str (("places" : String) : Str)]) nl2
        rw [e5]
        have hL5 : SqL K H5 l [V.bl true, V.bl false, V.bl false] := s5.seq hL
        refine ⟨_, rfl, .inl ⟨rfl, _, hL5⟩, l, _, _, 0, _, rfl, rfl, hL5, rfl, rfl, rfl, rfl, (fun m z hm _ => absurd hm (Nat.not_lt_zero m)), l2, _, _, _, rfl, rfl, .inl (.inl hl2), atI_nat (j := 0) rfl, ?_⟩
        refine ⟨_, rfl, rfl, _, rfl, T.er_InvalidCheck.xf, T.er_InvalidCheck.sup.nov, dd, _, _, rfl, s5 _ _ hdd4, rfl, ShwX.repr ((hsh).same ((((s2.trans s3).trans s4).trans s5))) ?_⟩
        refine ⟨(show 2 ≤ sizeLine by decide), fun p np => ?_⟩
        exact q _ p (((((s2.trans s3).trans s4).trans s5)).trans (same_upd np)) ((((s2.trans s3).trans s4).trans s5).free np) upd_same
      · refine ⟨_, rfl, rfl, _, rfl, iteDF (by intro z; cases z) ⟨_, rfl, rfl, _, rfl, iteDT rfl ⟨_, rfl, _, rfl, _, rfl, _, _, _, rfl, .inl ⟨hv, fun H2 dd s2 nd => ?_⟩⟩⟩⟩
        refine ⟨true, T.em_InvalidCheck_SoundError, fun _ a na => ?_, fun z => nomatch z⟩
        have s3 := same_upd (o := .xd [("value", v)]) nd
        have hdd : (upd H2 dd (.xd [("value", v)])) dd = some (.xd [("value", v)]) := upd_same
        generalize upd H2 dd (.xd [("value", v)]) = H3 at s3 hdd na
        refine ⟨_, rfl, T.C_InvalidCheck, dd, _, _, _, true, rfl, rfl, rfl, hdd, T.ei_InvalidCheck, .own _, T.ki_InvalidCheck_InvalidCheck, _, rfl, T.C_InvalidCheck, dd, _, _, _, false, rfl, rfl, rfl, hdd, T.ei_InvalidCheck, .own _, T.ki_InvalidCheck_InvalidNumber, _, rfl, T.C_InvalidCheck, dd, _, _, _, false, rfl, rfl, rfl, hdd, T.ei_InvalidCheck, .own _, T.ki_InvalidCheck_InvalidPlaces, (show 3 ≤ sizeLine by decide), fun l nl => ?_⟩
        obtain ⟨H4, e4, s4, hl⟩ := fresh (.lst [V.bl true, V.bl false, V.bl false]) nl
        rw [e4]
        have hdd4 := s4 _ _ hdd
        have hL : SqL K H4 l [V.bl true, V.bl false, V.bl false] := .inl (.inl hl)
        refine ⟨_, rfl, .inl ⟨rfl, _, hL⟩, l, _, _, rfl, rfl, hL, rfl, rfl, rfl, _, rfl, iteENF rfl ?_⟩
        refine ⟨_, rfl, T.C_InvalidCheck, dd, _, _, _, true, rfl, rfl, rfl, hdd4, T.ei_InvalidCheck, .ty _, T.kv_InvalidCheck, true, rfl, iteNtt ?_⟩
        refine ⟨(show 3 ≤ sizeLine by decide), fun l2 nl2 => ?_⟩
        obtain ⟨H5, e5, s5, hl2⟩ := fresh (.lst [V.str (("check" : String) : Str), V.str (("number" : String) : Str), V.str (("places" : String) : Str)]) nl2
        rw [e5]
        have hL5 : SqL K H5 l [V.bl true, V.bl false, V.bl false] := s5.seq hL
        refine ⟨_, rfl, .inl ⟨rfl, _, hL5⟩, l, _, _, 0, _, rfl, rfl, hL5, rfl, rfl, rfl, rfl, (fun m z hm _ => absurd hm (Nat.not_lt_zero m)), l2, _, _, _, rfl, rfl, .inl (.inl hl2), atI_nat (j := 0) rfl, ?_⟩
        refine ⟨_, rfl, rfl, _, rfl, T.er_InvalidCheck.xf, T.er_InvalidCheck.sup.nov, dd, _, _, rfl, s5 _ _ hdd4, rfl, ShwX.repr ((hsh).same ((((s2.trans s3).trans s4).trans s5))) ?_⟩
        refine ⟨(show 2 ≤ sizeLine by decide), fun p np => ?_⟩
        exact q _ p (((((s2.trans s3).trans s4).trans s5)).trans (same_upd np)) ((((s2.trans s3).trans s4).trans s5).free np) upd_same
      · refine ⟨_, rfl, rfl, _, rfl, iteDF (by intro z; cases z) ⟨_, rfl, rfl, _, rfl, iteDF (by intro z; cases z) ⟨_, rfl, _, rfl, _, _, rfl, .inl ⟨hv, fun H2 dd s2 nd => ?_⟩⟩⟩⟩
        refine ⟨true, T.em_InvalidCheck_SoundError, fun _ a na => ?_, fun z => nomatch z⟩
        have s3 := same_upd (o := .xd [("value", v)]) nd
        have hdd : (upd H2 dd (.xd [("value", v)])) dd = some (.xd [("value", v)]) := upd_same
        generalize upd H2 dd (.xd [("value", v)]) = H3 at s3 hdd na
        refine ⟨_, rfl, T.C_InvalidCheck, dd, _, _, _, true, rfl, rfl, rfl, hdd, T.ei_InvalidCheck, .own _, T.ki_InvalidCheck_InvalidCheck, _, rfl, T.C_InvalidCheck, dd, _, _, _, false, rfl, rfl, rfl, hdd, T.ei_InvalidCheck, .own _, T.ki_InvalidCheck_InvalidNumber, _, rfl, T.C_InvalidCheck, dd, _, _, _, false, rfl, rfl, rfl, hdd, T.ei_InvalidCheck, .own _, T.ki_InvalidCheck_InvalidPlaces, (show 3 ≤ sizeLine by decide), fun l nl => ?_⟩
        obtain ⟨H4, e4, s4, hl⟩ := fresh (.lst [V.bl true, V.bl false, V.bl false]) nl
        rw [e4]
        have hdd4 := s4 _ _ hdd
        have hL : SqL K H4 l [V.bl true, V.bl false, V.bl false] := .inl (.inl hl)
        refine ⟨_, rfl, .inl ⟨rfl, _, hL⟩, l, _, _, rfl, rfl, hL, rfl, rfl, rfl, _, rfl, iteENF rfl ?_⟩
        refine ⟨_, rfl, T.C_InvalidCheck, dd, _, _, _, true, rfl, rfl, rfl, hdd4, T.ei_InvalidCheck, .ty _, T.kv_InvalidCheck, true, rfl, iteNtt ?_⟩
        refine ⟨(show 3 ≤ sizeLine by decide), fun l2 nl2 => ?_⟩
        obtain ⟨H5, e5, s5, hl2⟩ := fresh (.lst [V.str (("check" : String) : Str), V.str (("number" : String) : Str), V.str (("places" : String) : Str)]) nl2
        rw [e5]
        have hL5 : SqL K H5 l [V.bl true, V.bl false, V.bl false] := s5.seq hL
        refine ⟨_, rfl, .inl ⟨rfl, _, hL5⟩, l, _, _, 0, _, rfl, rfl, hL5, rfl, rfl, rfl, rfl, (fun m z hm _ => absurd hm (Nat.not_lt_zero m)), l2, _, _, _, rfl, rfl, .inl (.inl hl2), atI_nat (j := 0) rfl, ?_⟩
        refine ⟨_, rfl, rfl, _, rfl, T.er_InvalidCheck.xf, T.er_InvalidCheck.sup.nov, dd, _, _, rfl, s5 _ _ hdd4, rfl, ShwX.repr ((hsh).same ((((s2.trans s3).trans s4).trans s5))) ?_⟩
        refine ⟨(show 2 ≤ sizeLine by decide), fun p np => ?_⟩
        exact q _ p (((((s2.trans s3).trans s4).trans s5)).trans (same_upd np)) ((((s2.trans s3).trans s4).trans s5).free np) upd_same
    · obtain rfl | rfl : k = 0 ∨ k = 1 := by omega
      · refine ⟨_, rfl, rfl, _, rfl, iteDT rfl ⟨_, rfl, _, rfl, _, _, rfl, .inr ⟨a0, wd, W, rfl, hC, .inl ⟨hu, fun H2 dd s2 nd => ?_⟩⟩⟩⟩
        refine ⟨true, T.em_InvalidNumber_SoundError, fun _ a na => ?_, fun z => nomatch z⟩
        have s3 := same_upd (o := .xd [("value", v)]) nd
        have hdd : (upd H2 dd (.xd [("value", v)])) dd = some (.xd [("value", v)]) := upd_same
        generalize upd H2 dd (.xd [("value", v)]) = H3 at s3 hdd na
        refine ⟨_, rfl, T.C_InvalidNumber, dd, _, _, _, false, rfl, rfl, rfl, hdd, T.ei_InvalidNumber, .own _, T.ki_InvalidNumber_InvalidCheck, _, rfl, T.C_InvalidNumber, dd, _, _, _, true, rfl, rfl, rfl, hdd, T.ei_InvalidNumber, .own _, T.ki_InvalidNumber_InvalidNumber, _, rfl, T.C_InvalidNumber, dd, _, _, _, false, rfl, rfl, rfl, hdd, T.ei_InvalidNumber, .own _, T.ki_InvalidNumber_InvalidPlaces, (show 3 ≤ sizeLine by decide), fun l nl => ?_⟩
        obtain ⟨H4, e4, s4, hl⟩ := fresh (.lst [V.bl false, V.bl true, V.bl false]) nl
        rw [e4]
        have hdd4 := s4 _ _ hdd
        have hL : SqL K H4 l [V.bl false, V.bl true, V.bl false] := .inl (.inl hl)
        refine ⟨_, rfl, .inl ⟨rfl, _, hL⟩, l, _, _, rfl, rfl, hL, rfl, rfl, rfl, _, rfl, iteENF rfl ?_⟩
        refine ⟨_, rfl, T.C_InvalidNumber, dd, _, _, _, true, rfl, rfl, rfl, hdd4, T.ei_InvalidNumber, .ty _, T.kv_InvalidNumber, true, rfl, iteNtt ?_⟩
        refine ⟨(show 3 ≤ sizeLine by decide), fun l2 nl2 => ?_⟩
        obtain ⟨H5, e5, s5, hl2⟩ := fresh (.lst [V.str (("check" : String) : Str), V.str (("number" : String) : Str), V.str (("places" : String) : Str)]) nl2
        rw [e5]
        have hL5 : SqL K H5 l [V.bl false, V.bl true, V.bl false] := s5.seq hL
        refine ⟨_, rfl, .inl ⟨rfl, _, hL5⟩, l, _, _, 1, _, rfl, rfl, hL5, rfl, rfl, rfl, rfl, (fun m z hm hz => by (have e : m = 0 := by omega); subst e; cases hz; rfl), l2, _, _, _, rfl, rfl, .inl (.inl hl2), atI_nat (j := 1) rfl, ?_⟩
        refine ⟨_, rfl, rfl, _, rfl, T.er_InvalidNumber.xf, T.er_InvalidNumber.sup.nov, dd, _, _, rfl, s5 _ _ hdd4, rfl, ShwX.repr ((hsh).same ((((s2.trans s3).trans s4).trans s5))) ?_⟩
        refine ⟨(show 2 ≤ sizeLine by decide), fun p np => ?_⟩
        exact q _ p (((((s2.trans s3).trans s4).trans s5)).trans (same_upd np)) ((((s2.trans s3).trans s4).trans s5).free np) upd_same
      · refine ⟨_, rfl, rfl, _, rfl, iteDF (by intro z; cases z) ⟨_, rfl, rfl, _, rfl, iteDT rfl ⟨_, rfl, _, rfl, _, rfl, _, _, _, rfl, .inr ⟨a0, wd, W, rfl, hC, .inl ⟨hu, fun H2 dd s2 nd => ?_⟩⟩⟩⟩⟩
        refine ⟨true, T.em_InvalidNumber_SoundError, fun _ a na => ?_, fun z => nomatch z⟩
        have s3 := same_upd (o := .xd [("value", v)]) nd
        have hdd : (upd H2 dd (.xd [("value", v)])) dd = some (.xd [("value", v)]) := upd_same
        generalize upd H2 dd (.xd [("value", v)]) = H3 at s3 hdd na
        refine ⟨_, rfl, T.C_InvalidNumber, dd, _, _, _, false, rfl, rfl, rfl, hdd, T.ei_InvalidNumber, .own _, T.ki_InvalidNumber_InvalidCheck, _, rfl, T.C_InvalidNumber, dd, _, _, _, true, rfl, rfl, rfl, hdd, T.ei_InvalidNumber, .own _, T.ki_InvalidNumber_InvalidNumber, _, rfl, T.C_InvalidNumber, dd, _, _, _, false, rfl, rfl, rfl, hdd, T.ei_InvalidNumber, .own _, T.ki_InvalidNumber_InvalidPlaces, (show 3 ≤ sizeLine by decide), fun l nl => ?_⟩
        obtain ⟨H4, e4, s4, hl⟩ := fresh (.lst [V.bl false, V.bl true, V.bl false]) nl
        rw [e4]
        have hdd4 := s4 _ _ hdd
        have hL : SqL K H4 l [V.bl false, V.bl true, V.bl false] := .inl (.inl hl)
        refine ⟨_, rfl, .inl ⟨rfl, _, hL⟩, l, _, _, rfl, rfl, hL, rfl, rfl, rfl, _, rfl, iteENF rfl ?_⟩
        refine ⟨_, rfl, T.C_InvalidNumber, dd, _, _, _, true, rfl, rfl, rfl, hdd4, T.ei_InvalidNumber, .ty _, T.kv_InvalidNumber, true, rfl, iteNtt ?_⟩
        refine ⟨(show 3 ≤ sizeLine by decide), fun l2 nl2 => ?_⟩
        obtain ⟨H5, e5, s5, hl2⟩ := fresh (.lst [V.str (("check" : String) : Str), V.str (("number" : String) : Str), V.str (("places" : String) : Str)]) nl2
        rw [e5]
        have hL5 : SqL K H5 l [V.bl false, V.bl true, V.bl false] := s5.seq hL
        refine ⟨_, rfl, .inl ⟨rfl, _, hL5⟩, l, _, _, 1, _, rfl, rfl, hL5, rfl, rfl, rfl, rfl, (fun m z hm hz => by (have e : m = 0 := by omega); subst e; cases hz; rfl), l2, _, _, _, rfl, rfl, .inl (.inl hl2), atI_nat (j := 1) rfl, ?_⟩
        refine ⟨_, rfl, rfl, _, rfl, T.er_InvalidNumber.xf, T.er_InvalidNumber.sup.nov, dd, _, _, rfl, s5 _ _ hdd4, rfl, ShwX.repr ((hsh).same ((((s2.trans s3).trans s4).trans s5))) ?_⟩
        refine ⟨(show 2 ≤ sizeLine by decide), fun p np => ?_⟩
        exact q _ p (((((s2.trans s3).trans s4).trans s5)).trans (same_upd np)) ((((s2.trans s3).trans s4).trans s5).free np) upd_same
    · refine ⟨_, rfl, rfl, _, rfl, iteDF (by intro z; cases z) ⟨_, rfl, rfl, _, rfl, iteDT rfl ⟨_, rfl, _, rfl, _, rfl, _, _, _, rfl, .inr ⟨a0, wd, W, rfl, hC, .inr ⟨s, rfl, hs, .inl ⟨hx, fun H2 dd s2 nd => ?_⟩⟩⟩⟩⟩⟩
      refine ⟨true, T.em_InvalidNumber_SoundError, fun _ a na => ?_, fun z => nomatch z⟩
      have s3 := same_upd (o := .xd [("value", v)]) nd
      have hdd : (upd H2 dd (.xd [("value", v)])) dd = some (.xd [("value", v)]) := upd_same
      generalize upd H2 dd (.xd [("value", v)]) = H3 at s3 hdd na
      refine ⟨_, rfl, T.C_InvalidNumber, dd, _, _, _, false, rfl, rfl, rfl, hdd, T.ei_InvalidNumber, .own _, T.ki_InvalidNumber_InvalidCheck, _, rfl, T.C_InvalidNumber, dd, _, _, _, true, rfl, rfl, rfl, hdd, T.ei_InvalidNumber, .own _, T.ki_InvalidNumber_InvalidNumber, _, rfl, T.C_InvalidNumber, dd, _, _, _, false, rfl, rfl, rfl, hdd, T.ei_InvalidNumber, .own _, T.ki_InvalidNumber_InvalidPlaces, (show 3 ≤ sizeLine by decide), fun l nl => ?_⟩
      obtain ⟨H4, e4, s4, hl⟩ := fresh (.lst [V.bl false, V.bl true, V.bl false]) nl
      rw [e4]
      have hdd4 := s4 _ _ hdd
      have hL : SqL K H4 l [V.bl false, V.bl true, V.bl false] := .inl (.inl hl)
      refine ⟨_, rfl, .inl ⟨rfl, _, hL⟩, l, _, _, rfl, rfl, hL, rfl, rfl, rfl, _, rfl, iteENF rfl ?_⟩
      refine ⟨_, rfl, T.C_InvalidNumber, dd, _, _, _, true, rfl, rfl, rfl, hdd4, T.ei_InvalidNumber, .ty _, T.kv_InvalidNumber, true, rfl, iteNtt ?_⟩
      refine ⟨(show 3 ≤ sizeLine by decide), fun l2 nl2 => ?_⟩
      obtain ⟨H5, e5, s5, hl2⟩ := fresh (.lst [V.str (("check" : String) : Str), V.str (("number" : String) : Str), V.str (("places" : String) : Str)]) nl2
      rw [e5]
      have hL5 : SqL K H5 l [V.bl false, V.bl true, V.bl false] := s5.seq hL
      refine ⟨_, rfl, .inl ⟨rfl, _, hL5⟩, l, _, _, 1, _, rfl, rfl, hL5, rfl, rfl, rfl, rfl, (fun m z hm hz => by (have e : m = 0 := by omega); subst e; cases hz; rfl), l2, _, _, _, rfl, rfl, .inl (.inl hl2), atI_nat (j := 1) rfl, ?_⟩
      refine ⟨_, rfl, rfl, _, rfl, T.er_InvalidNumber.xf, T.er_InvalidNumber.sup.nov, dd, _, _, rfl, s5 _ _ hdd4, rfl, ShwX.repr ((hsh).same ((((s2.trans s3).trans s4).trans s5))) ?_⟩
      refine ⟨(show 2 ≤ sizeLine by decide), fun p np => ?_⟩
      exact q _ p (((((s2.trans s3).trans s4).trans s5)).trans (same_upd np)) ((((s2.trans s3).trans s4).trans s5).free np) upd_same
    · rcases hu with hu | ⟨b, ts, rfl, hB, hR, hG⟩
      · refine ⟨_, rfl, rfl, _, rfl, iteDF (by intro z; cases z) ⟨_, rfl, rfl, _, rfl, iteDF (by intro z; cases z) ⟨_, rfl, _, rfl, _, _, rfl, .inr ⟨a0, wd, W, rfl, hC, .inl ⟨hu, fun H2 dd s2 nd => ?_⟩⟩⟩⟩⟩
        refine ⟨true, T.em_InvalidPlaces_SoundError, fun _ a na => ?_, fun z => nomatch z⟩
        have s3 := same_upd (o := .xd [("value", v)]) nd
        have hdd : (upd H2 dd (.xd [("value", v)])) dd = some (.xd [("value", v)]) := upd_same
        generalize upd H2 dd (.xd [("value", v)]) = H3 at s3 hdd na
        refine ⟨_, rfl, T.C_InvalidPlaces, dd, _, _, _, false, rfl, rfl, rfl, hdd, T.ei_InvalidPlaces, .own _, T.ki_InvalidPlaces_InvalidCheck, _, rfl, T.C_InvalidPlaces, dd, _, _, _, false, rfl, rfl, rfl, hdd, T.ei_InvalidPlaces, .own _, T.ki_InvalidPlaces_InvalidNumber, _, rfl, T.C_InvalidPlaces, dd, _, _, _, true, rfl, rfl, rfl, hdd, T.ei_InvalidPlaces, .own _, T.ki_InvalidPlaces_InvalidPlaces, (show 3 ≤ sizeLine by decide), fun l nl => ?_⟩
        obtain ⟨H4, e4, s4, hl⟩ := fresh (.lst [V.bl false, V.bl false, V.bl true]) nl
        rw [e4]
        have hdd4 := s4 _ _ hdd
        have hL : SqL K H4 l [V.bl false, V.bl false, V.bl true] := .inl (.inl hl)
        refine ⟨_, rfl, .inl ⟨rfl, _, hL⟩, l, _, _, rfl, rfl, hL, rfl, rfl, rfl, _, rfl, iteENF rfl ?_⟩
        refine ⟨_, rfl, T.C_InvalidPlaces, dd, _, _, _, true, rfl, rfl, rfl, hdd4, T.ei_InvalidPlaces, .ty _, T.kv_InvalidPlaces, true, rfl, iteNtt ?_⟩
        refine ⟨(show 3 ≤ sizeLine by decide), fun l2 nl2 => ?_⟩
        obtain ⟨H5, e5, s5, hl2⟩ := fresh (.lst [V.str (("check" : String) : Str), V.str (("number" : String) : Str), V.str (("places" : String) : Str)]) nl2
        rw [e5]
        have hL5 : SqL K H5 l [V.bl false, V.bl false, V.bl true] := s5.seq hL
        refine ⟨_, rfl, .inl ⟨rfl, _, hL5⟩, l, _, _, 2, _, rfl, rfl, hL5, rfl, rfl, rfl, rfl, (fun m z hm hz => by (have e : m = 0 ∨ m = 1 := by omega); rcases e with rfl | rfl <;> (cases hz; rfl)), l2, _, _, _, rfl, rfl, .inl (.inl hl2), atI_nat (j := 2) rfl, ?_⟩
        refine ⟨_, rfl, rfl, _, rfl, T.er_InvalidPlaces.xf, T.er_InvalidPlaces.sup.nov, dd, _, _, rfl, s5 _ _ hdd4, rfl, ShwX.repr ((hsh).same ((((s2.trans s3).trans s4).trans s5))) ?_⟩
        refine ⟨(show 2 ≤ sizeLine by decide), fun p np => ?_⟩
        exact q _ p (((((s2.trans s3).trans s4).trans s5)).trans (same_upd np)) ((((s2.trans s3).trans s4).trans s5).free np) upd_same
      · refine ⟨_, rfl, rfl, _, rfl, iteDF (by intro z; cases z) ⟨_, rfl, rfl, _, rfl, iteDF (by intro z; cases z) ⟨_, rfl, _, rfl, _, _, rfl, .inr ⟨a0, wd, W, rfl, hC, .inr ⟨b, ts, rfl, hB, hR, .inl ⟨hG, fun H2 dd s2 nd => ?_⟩⟩⟩⟩⟩⟩
        refine ⟨true, T.em_InvalidPlaces_SoundError, fun _ a na => ?_, fun z => nomatch z⟩
        have s3 := same_upd (o := .xd [("value", .ref b)]) nd
        have hdd : (upd H2 dd (.xd [("value", .ref b)])) dd = some (.xd [("value", .ref b)]) := upd_same
        generalize upd H2 dd (.xd [("value", .ref b)]) = H3 at s3 hdd na
        refine ⟨_, rfl, T.C_InvalidPlaces, dd, _, _, _, false, rfl, rfl, rfl, hdd, T.ei_InvalidPlaces, .own _, T.ki_InvalidPlaces_InvalidCheck, _, rfl, T.C_InvalidPlaces, dd, _, _, _, false, rfl, rfl, rfl, hdd, T.ei_InvalidPlaces, .own _, T.ki_InvalidPlaces_InvalidNumber, _, rfl, T.C_InvalidPlaces, dd, _, _, _, true, rfl, rfl, rfl, hdd, T.ei_InvalidPlaces, .own _, T.ki_InvalidPlaces_InvalidPlaces, (show 3 ≤ sizeLine by decide), fun l nl => ?_⟩
        obtain ⟨H4, e4, s4, hl⟩ := fresh (.lst [V.bl false, V.bl false, V.bl true]) nl
        rw [e4]
        have hdd4 := s4 _ _ hdd
        have hL : SqL K H4 l [V.bl false, V.bl false, V.bl true] := .inl (.inl hl)
        refine ⟨_, rfl, .inl ⟨rfl, _, hL⟩, l, _, _, rfl, rfl, hL, rfl, rfl, rfl, _, rfl, iteENF rfl ?_⟩
        refine ⟨_, rfl, T.C_InvalidPlaces, dd, _, _, _, true, rfl, rfl, rfl, hdd4, T.ei_InvalidPlaces, .ty _, T.kv_InvalidPlaces, true, rfl, iteNtt ?_⟩
        refine ⟨(show 3 ≤ sizeLine by decide), fun l2 nl2 => ?_⟩
        obtain ⟨H5, e5, s5, hl2⟩ := fresh (.lst [V.str (("check" : String) : Str), V.str (("number" : String) : Str), V.str (("places" : String) : Str)]) nl2
        rw [e5]
        have hL5 : SqL K H5 l [V.bl false, V.bl false, V.bl true] := s5.seq hL
        refine ⟨_, rfl, .inl ⟨rfl, _, hL5⟩, l, _, _, 2, _, rfl, rfl, hL5, rfl, rfl, rfl, rfl, (fun m z hm hz => by (have e : m = 0 ∨ m = 1 := by omega); rcases e with rfl | rfl <;> (cases hz; rfl)), l2, _, _, _, rfl, rfl, .inl (.inl hl2), atI_nat (j := 2) rfl, ?_⟩
        refine ⟨_, rfl, rfl, _, rfl, T.er_InvalidPlaces.xf, T.er_InvalidPlaces.sup.nov, dd, _, _, rfl, s5 _ _ hdd4, rfl, ShwX.repr ((hsh).same ((((s2.trans s3).trans s4).trans s5))) ?_⟩
        refine ⟨(show 2 ≤ sizeLine by decide), fun p np => ?_⟩
        exact q _ p (((((s2.trans s3).trans s4).trans s5)).trans (same_upd np)) ((((s2.trans s3).trans s4).trans s5).free np) upd_same
  · refine ⟨_, rfl, rfl, _, rfl, iteDF (by intro z; cases z) ⟨_, rfl, rfl, _, rfl, iteDF (by intro z; cases z) ⟨_, rfl, _, rfl, _, _, rfl, .inr ⟨a, wd, W, rfl, hC, .inr ⟨b, ts, rfl, hB, hR, .inr ⟨hG, fun H1 s1 => ?_⟩⟩⟩⟩⟩⟩
    refine ⟨(show 1 ≤ sizeLine by decide), fun p np => ?_⟩
    exact q _ p (s1.trans (same_upd np)) (s1.free np) upd_same
end
end My

namespace My
open PySem PySem.Spec PyProof.Rows L2 Pre
/-! ### all that is refused -/
def okD (d : PyData) : Bool := d.showable && SeqAt.shaped d && decide (d.shown.length ≤ sizeLine) && PyData.strOk d.shown
theorem int_okD : ∀ n : Nat, n < 200 → okD (.int (n : Int)) = true := by decide +kernel
theorem cut_lastX (xs : List V) (x : V) : cutV (xs ++ [x]) (some (-1)) none = [x] := by
  unfold cutV
  have e : HT.sIx (xs ++ [x]).length 0 (some (-1)) = xs.length := by
    unfold HT.sIx
    rw [List.length_append]
    simp
    omega
  have e2 : HT.sIx (xs ++ [x]).length (xs ++ [x]).length none = xs.length + 1 := by rw [HT.sIx_none, List.length_append]; rfl
  rw [e, e2, List.drop_left, Nat.add_sub_cancel_left]
  rfl
theorem cut_end {rs mid : List Nat} {wd : Nat} (e : rs = 0 :: (mid ++ [wd])) : cutV ((natI rs).map V.int) (some (-1)) none = [V.int (wd : Int)] := by
  rw [e, ← List.cons_append]
  unfold natI
  rw [List.map_append, List.map_append]
  exact cut_lastX _ _
theorem map_one {rs : List Nat} {wd : Nat} : (natI rs ++ [(wd : Int)]).map V.int = (natI rs).map V.int ++ [V.int (wd : Int)] := by rw [List.map_append]; rfl
theorem cut_ini {rs : List Nat} : cutV ((natI rs).map V.int) none (some (-1)) = (natI rs.dropLast).map V.int := by
  rw [cut_last, nat_len, ← List.map_take]
  unfold natI
  rw [← List.map_take, List.dropLast_eq_take]
theorem map_far {rs : List Nat} {wd : Nat} : (natI rs.dropLast).map V.int ++ [V.int ((wd : Int) + 1001)] = (natI (rs.dropLast ++ [wd + 1001])).map V.int := by
  unfold natI
  rw [List.map_append, List.map_append]
  rfl
theorem val_nought {wd W : Nat} (hK : Ck wd W) : valP wd W [0] = 1 := by
  show 0 ^^^ pw wd W 0 = 1
  rw [pw_zero hK]
  rfl
theorem ones_form {wd W : Nat} (hK : Ck wd W) : ∃ mid, onesN W (wd + 1) = 0 :: (mid ++ [wd]) ∧ (onesN W (wd + 1)).Pairwise (· < ·) ∧ (∀ t ∈ onesN W (wd + 1), t ≤ wd) ∧ (wd ≤ 16 → GoodShape wd W (onesN W (wd + 1))) := by
  have ht := W_top hK
  have h0 : W.testBit 0 = true := by rw [Nat.testBit_zero]; exact decide_eq_true hK.odd
  obtain ⟨v, hv⟩ : ∃ v, wd = v + 1 := ⟨wd - 1, by have := hK.pos; omega⟩
  have e : onesN W (wd + 1) = 0 :: ((((List.range v).map Nat.succ).filter fun i => W.testBit i) ++ [wd]) := by
    rw [ones_last hK.hi ht, hv]
    unfold onesN
    rw [List.range_succ_eq_map, List.filter_cons_of_pos h0]
    rfl
  refine ⟨_, e, ones_rise _ _, fun t h => by have := (ones_mem.mp h).1; omega, fun hw => ⟨?_, ⟨wd, ?_, by omega⟩, ?_⟩⟩
  · rw [e]; rfl
  · rw [ones_last hK.hi ht, List.getLast?_append]; rfl
  · rw [valP_ones hK hK.hi, rem_self hK]
def okR (ns : List Int) : Bool := okD (.list (ns.map PyData.int))
def okAll (rs : List Nat) (wd : Nat) : Bool := decide (rs.length ≤ 6) && (okR (natI rs).reverse && (okR (natI rs ++ [(wd : Int)]) && (okR (natI (rs.map (· + 1))) && (okR (natI (rs.drop 1)) && (okR ((-1 : Int) :: natI rs) && okR (natI (rs.dropLast ++ [wd + 1001])))))))
theorem ok_all : ∀ wd : Nat, wd < 6 → ∀ W : Nat, W < 64 → okAll (onesN W (wd + 1)) wd = true := by decide +kernel
theorem right_ok {wd W : Nat} (hK : Ck wd W) (h5 : wd ≤ 5) : (onesN W (wd + 1)).length ≤ 6 ∧ okR (natI (onesN W (wd + 1))).reverse = true ∧ okR (natI (onesN W (wd + 1)) ++ [(wd : Int)]) = true ∧ okR (natI ((onesN W (wd + 1)).map (· + 1))) = true ∧ okR (natI ((onesN W (wd + 1)).drop 1)) = true ∧ okR ((-1 : Int) :: natI (onesN W (wd + 1))) = true ∧ okR (natI ((onesN W (wd + 1)).dropLast ++ [wd + 1001])) = true := by
  have h1 : W < 64 := Nat.lt_of_lt_of_le hK.hi (Nat.le_trans (Nat.pow_le_pow_right (by decide) (show wd + 1 ≤ 6 by omega)) (by decide))
  have h := ok_all wd (by omega) W h1
  unfold okAll at h
  simp only [Bool.and_eq_true, decide_eq_true_eq] at h
  exact h
theorem btw_nat {rs : List Nat} (h : ∀ t ∈ rs, t ≤ 2000) : Btw (natI rs) := natI_btw fun t ht => Nat.le_trans (h t ht) (by decide)
theorem btw_rev {rs : List Nat} {wd : Nat} (h5 : wd ≤ 5) (h : ∀ t ∈ rs, t ≤ wd) : Btw (natI rs).reverse := fun n hn => btw_nat (fun t ht => by have := h t ht; omega) n (List.mem_reverse.mp hn)
theorem not_rev {rs mid : List Nat} {wd : Nat} (h1 : 1 ≤ wd) (e : rs = 0 :: (mid ++ [wd])) : ¬ (natI rs).reverse.Pairwise (· < ·) := by
  intro h
  rw [List.pairwise_reverse] at h
  have h : (natI rs).Pairwise (fun a b => b < a) := h
  rw [e] at h
  have := List.rel_of_pairwise_cons h (show (wd : Int) ∈ (mid ++ [wd]).map fun (t : Nat) => (t : Int) from List.mem_map.mpr ⟨wd, List.mem_append_right _ List.mem_cons_self, rfl⟩)
  simp at this
  omega
theorem btw_dbl {rs : List Nat} {wd : Nat} (h5 : wd ≤ 5) (h : ∀ t ∈ rs, t ≤ wd) : Btw (natI rs ++ [(wd : Int)]) := fun n hn => by
  rcases List.mem_append.mp hn with hn | hn
  · exact btw_nat (fun t ht => by have := h t ht; omega) n hn
  · rw [List.mem_singleton.mp hn]; omega
theorem not_dbl {rs mid : List Nat} {wd : Nat} (e : rs = 0 :: (mid ++ [wd])) : ¬ (natI rs ++ [(wd : Int)]).Pairwise (· < ·) := by
  intro h
  have hm : (wd : Int) ∈ natI rs := by
    rw [e]
    exact List.mem_map.mpr ⟨wd, List.mem_cons_of_mem _ (List.mem_append_right _ List.mem_cons_self), rfl⟩
  have := (List.pairwise_append.mp h).2.2 _ hm _ List.mem_cons_self
  omega
theorem rise_up {rs : List Nat} {wd : Nat} (hp : rs.Pairwise (· < ·)) (hle : ∀ t ∈ rs, t ≤ wd) (hl : rs.length ≤ 6) (h5 : wd ≤ 5) : Rising (rs.map (· + 1)) := by
  refine ⟨?_, fun t ht => ?_, by rw [List.length_map]; omega⟩
  · rw [List.pairwise_map]
    exact hp.imp fun h => by omega
  · obtain ⟨u, hu, rfl⟩ := List.mem_map.mp ht
    have := hle u hu
    omega
theorem rise_right {rs : List Nat} {wd : Nat} (hp : rs.Pairwise (· < ·)) (hle : ∀ t ∈ rs, t ≤ wd) (hl : rs.length ≤ 6) (h5 : wd ≤ 5) : Rising rs := ⟨hp, fun t ht => by have := hle t ht; omega, by omega⟩
theorem rise_drop {rs : List Nat} {wd : Nat} (hp : rs.Pairwise (· < ·)) (hle : ∀ t ∈ rs, t ≤ wd) (hl : rs.length ≤ 6) (h5 : wd ≤ 5) : Rising (rs.drop 1) := ⟨hp.sublist (List.drop_sublist _ _), fun t ht => by have := hle t (List.mem_of_mem_drop ht); omega, by rw [List.length_drop]; omega⟩
theorem head_drop {rs mid : List Nat} {wd : Nat} (e : rs = 0 :: (mid ++ [wd])) (hp : rs.Pairwise (· < ·)) : (rs.drop 1).head? ≠ some 0 := by
  subst e
  intro h
  have h : (mid ++ [wd]).head? = some 0 := h
  have hm : 0 ∈ mid ++ [wd] := List.mem_of_mem_head? (by rw [h]; exact rfl)
  exact absurd (List.rel_of_pairwise_cons hp hm) (by decide)
theorem rise_far {rs mid : List Nat} {wd : Nat} (e : rs = 0 :: (mid ++ [wd])) (hp : rs.Pairwise (· < ·)) (hle : ∀ t ∈ rs, t ≤ wd) (hl : rs.length ≤ 6) (h5 : wd ≤ 5) : Rising (rs.dropLast ++ [wd + 1001]) := by
  have hsub : ∀ t ∈ rs.dropLast, t ≤ wd := fun t ht => hle t (List.dropLast_subset _ ht)
  refine ⟨List.pairwise_append.mpr ⟨hp.sublist (List.dropLast_sublist _), List.pairwise_singleton _ _, fun a ha b hb => ?_⟩, fun t ht => ?_, ?_⟩
  · rw [List.mem_singleton.mp hb]
    have := hsub a ha
    omega
  · rcases List.mem_append.mp ht with ht | ht
    · have := hsub t ht; omega
    · rw [List.mem_singleton.mp ht]; omega
  · rw [List.length_append, List.length_dropLast]
    show _ + 1 ≤ _
    omega
theorem two_num {K : PySem.W.Frag} {H : Hp} {x y : V} {b c : Bool} (h : NumV K H x 0 (some 1000000000000000000) b) (k : NumV K H y 0 (some 1000000000000000000) c) : ∀ (i : Nat) (z : V) (d : Bool), [x, y][i]? = some z → [b, c][i]? = some d → NumV K H z 0 (some 1000000000000000000) d := by
  intro i z d hz hd
  match i, hz, hd with
  | 0, hz, hd => cases hz; cases hd; exact h
  | 1, hz, hd => cases hz; cases hd; exact k
  | i + 2, hz, _ => simp at hz
theorem neg_num {K : PySem.W.Frag} {H : Hp} {rs : List Nat} {wd : Nat} (hle : ∀ t ∈ rs, t ≤ wd) (h5 : wd ≤ 5) : ∀ (i : Nat) (z : V) (d : Bool), (((-1 : Int) :: natI rs).map V.int)[i]? = some z → (false :: List.replicate rs.length true)[i]? = some d → NumV K H z 0 (some 1000000000000000000) d := by
  intro i z d hz hd
  match i, hz, hd with
  | 0, hz, hd =>
    cases hz
    cases hd
    exact .inl ⟨-1, rfl, by decide⟩
  | i + 1, hz, hd =>
    obtain ⟨t, ht, rfl⟩ := nat_at (show ((natI rs).map V.int)[i]? = some z from hz)
    have hd : (List.replicate rs.length true)[i]? = some d := hd
    rw [List.getElem?_replicate] at hd
    split at hd
    · cases hd
      have := hle t (List.mem_of_getElem? ht)
      exact num_ok (by omega) (fun j h => by cases h; omega)
    · cases hd
local macro_rules | `(tactic| walk_at "go") => `(tactic| repeat (first | (with_reducible first | refine iteT ?_ | refine iteF ?_ | refine iteNtt ?_ | refine iteNff ?_ | refine iteET (by omega) ?_ | refine iteEF (by omega) ?_ | refine iteENT (by omega) ?_ | refine iteENF (by omega) ?_ | refine iteDT (by omega) ?_ | refine iteDF (by omega) ?_ | refine iteNT (by omega) ?_ | refine iteNF (by omega) ?_) | refine ⟨_, rfl, ?_⟩ | refine ⟨_, _, rfl, rfl, ?_⟩ | refine ⟨_, _, rfl, ?_⟩ | refine ⟨rfl, ?_⟩ | refine .inl ⟨_, rfl, ?_⟩ | refine .inr ⟨_, rfl, ?_⟩))
local macro_rules | `(tactic| walk_at "b") => `(tactic| try dsimp (config := { proj := false, iota := false, eta := false, zeta := false }) only)
section
variable {P : Program} {w : World} {K : PySem.W.Frag} {mg : Str → Option Value} {base : Heap} [pf : Sup.PF P fileS]
def sp_law_refused (C : Addr) : Sp := fun vs H Q _ => ∃ (a : Addr) (wd W s : Nat), vs = [.ref a, .int W, .int s] ∧ CheckAt C H a wd W ∧ wd ≤ 5 ∧ s ≤ 7 ∧ ∀ H', Same H H' → Q (.bl true) H'
theorem G_law_refused (T : Top K mg) : FnG P w K mg base CX0 8 T.f_law_refused T.fd_law_refused ["_law_check", "_law_whole", "_law_span"] (sp_law_refused T.C_Check) := by
  refine FnG.body T.F_law_refused sc_law_refused (fun vs H Q E h => by obtain ⟨a, wd, W, s, rfl, _⟩ := h; rfl) (fun cdv A outer s H vs Q E gd hr h => ?_)
  obtain ⟨a, wd, W, s, rfl, hC, hw5, hs, q⟩ := h
  refine ⟨_, PSs.nox (pss_cons (ps_for PassesOwn.never rfl (k_piL K rfl (pe_lst (pa_cons pe_non (pa_cons pe_int (pa_cons (pe_tup (pa_cons pe_int (pa_cons pe_int pa_nil))) (pa_cons pe_str (pa_cons pe_bl pa_nil))))))) (pg_name (i := 3) sc_law_refused.nd rfl (by first | exact Or.inl rfl | exact Or.inr rfl))
    (pss_one (ps_for PassesOwn.never rfl (pi_range1 (by rfl) T.n_range (pa_cons pe_int pa_nil)) (pg_name (i := 7) sc_law_refused.nd rfl (by first | exact Or.inl rfl | exact Or.inr rfl))
    (pss_one (ps_if (pt_cmpR (k_neD K rfl hr.units) (pe_callG (G_law_caught (P := P) T) gd (hr.mono (by decide)) (by rfl) T.g_law_caught T.F_law_caught.kp T.b_law_caught .nil pass0 (pa_cons (pv 7) (pa_cons (pv 3) (pa_cons pe_non (pa_cons pe_non pa_nil))))) (pe_lst (pa_cons pe_str (pa_cons (pe_callB (k_reprX K rfl gd (hu65 hr)) (by rfl) T.n_repr (by decide +kernel) (pa_cons (pv 3) pa_nil)) pa_nil))) (nomark _))
    (pss_one (ps_ret pe_bl))
    pss_nil)))))
  (pss_cons (ps_for PassesOwn.never rfl (k_piL K rfl (pe_lst (pa_cons pe_non (pa_cons (pe_un un_neg pe_int) (pa_cons pe_int (pa_cons pe_bl (pa_cons pe_str (pa_cons (pe_tup (pa_cons pe_int pa_nil)) (pa_cons (pe_lst (pa_cons pe_int pa_nil)) pa_nil))))))))) (pg_name (i := 3) sc_law_refused.nd rfl (by first | exact Or.inl rfl | exact Or.inr rfl))
    (pss_one (ps_for PassesOwn.never rfl (pi_range1 (by rfl) T.n_range (pa_cons pe_int pa_nil)) (pg_name (i := 7) sc_law_refused.nd rfl (by first | exact Or.inl rfl | exact Or.inr rfl))
    (pss_one (ps_if (pt_cmpR (k_neD K rfl hr.units) (pe_callG (G_law_caught (P := P) T) gd (hr.mono (by decide)) (by rfl) T.g_law_caught T.F_law_caught.kp T.b_law_caught .nil pass0 (pa_cons (pv 7) (pa_cons (pv 0) (pa_cons (pv 3) (pa_cons pe_non pa_nil))))) (pe_lst (pa_cons pe_str (pa_cons (pe_callB (k_reprX K rfl gd (hu65 hr)) (by rfl) T.n_repr (by decide +kernel) (pa_cons (pv 3) pa_nil)) pa_nil))) (nomark _))
    (pss_one (ps_ret pe_bl))
    pss_nil)))))
  (pss_cons (ps_set (i := 4) sc_law_refused.nd rfl (by first | exact Or.inl rfl | exact Or.inr rfl) (pe_call (G_how_many_shapes (P := P) T) (hr.mono (by decide)) (by rfl) T.g_how_many_shapes T.F_how_many_shapes.kp T.b_how_many_shapes .nil passL (pa_cons (pv 0) (pa_cons (pv 2) pa_nil))))
  (pss_cons (ps_for PassesOwn.never rfl (k_piL K rfl (pe_lst (pa_cons pe_non (pa_cons (pe_un un_neg pe_int) (pa_cons pe_bl (pa_cons (pv 4) (pa_cons pe_str (pa_cons (pe_lst (pa_cons pe_int pa_nil)) pa_nil)))))))) (pg_name (i := 3) sc_law_refused.nd rfl (by first | exact Or.inl rfl | exact Or.inr rfl))
    (pss_one (ps_if (pt_cmpR (k_neD K rfl hr.units) (pe_callG (G_law_caught (P := P) T) gd (hr.mono (by decide)) (by rfl) T.g_law_caught T.F_law_caught.kp T.b_law_caught .nil pass0 (pa_cons pe_int (pa_cons (pv 0) (pa_cons (pv 2) (pa_cons (pv 3) pa_nil))))) (pe_lst (pa_cons pe_str (pa_cons (pe_callB (k_reprX K rfl gd (hu65 hr)) (by rfl) T.n_repr (by decide +kernel) (pa_cons (pv 3) pa_nil)) pa_nil))) (nomark _))
    (pss_one (ps_ret pe_bl))
    pss_nil)))
  (pss_cons (ps_set (i := 5) sc_law_refused.nd rfl (by first | exact Or.inl rfl | exact Or.inr rfl) (pe_call (G_law_places (P := P) T) (hr.mono (by decide)) (by rfl) T.g_law_places T.F_law_places.kp T.b_law_places .nil pass0 (pa_cons (pv 1) pa_nil)))
  (pss_cons (ps_set (i := 6) sc_law_refused.nd rfl (by first | exact Or.inl rfl | exact Or.inr rfl) (pe_lst (pa_cons pe_non (pa_cons (pe_lst pa_nil) (pa_cons (pe_lst (pa_cons pe_int pa_nil)) (pa_cons (pe_lst (pa_cons pe_int pa_nil)) (pa_cons (pe_tup (pa_cons pe_int (pa_cons pe_int pa_nil))) (pa_cons (pe_revL (pv 5)) (pa_cons (pe_op op_cat (pv 5) (pe_slice (k_slL K rfl) (pv 5) (po_some (pe_un un_neg pe_int)) po_none)) (pa_cons (pe_lc (own := [("_law_place", 8)]) (g := gName 8) (tt := tYes) (by rfl) sc_law_refused.nd (k_piL K rfl (pv 5)) (blkOk_by (own := [("_law_place", 8)]) (N := N_law_refused) (sc := defScope s_law_refused) (by decide +kernel)) (fun _ _ _ _ _ => (pg_name (i := 8) sc_law_refused.nd rfl (by first | exact Or.inl rfl | exact Or.inr rfl))) (fun _ _ _ _ _ => pts_nil) (fun _ _ _ _ _ => (pe_op op_add (pv 8) pe_int))) (pa_cons (pe_slice (k_slL K rfl) (pv 5) (po_some pe_int) po_none) pa_nil)))))))))))
  (pss_cons (ps_set (i := 6) sc_law_refused.nd rfl (by first | exact Or.inl rfl | exact Or.inr rfl) (pe_op op_cat (pv 6) (pe_lst (pa_cons (pe_lst (pa_cons pe_int (pa_cons pe_bl pa_nil))) (pa_cons (pe_lst (pa_cons pe_int (pa_cons pe_str pa_nil))) (pa_cons (pe_op op_cat (pe_lst (pa_cons (pe_un un_neg pe_int) pa_nil)) (pv 5)) (pa_cons (pe_lst (pa_cons pe_int (pa_cons (pe_op op_add (pe_op op_powW pe_int pe_int) pe_int) pa_nil))) (pa_cons (pe_op op_cat (pe_slice (k_slL K rfl) (pv 5) po_none (po_some (pe_un un_neg pe_int))) (pe_lst (pa_cons (pe_op op_add (pe_ix (k_ixL K rfl) (pv 5) (pe_un un_neg pe_int) (fun _ _ => rfl)) pe_int) pa_nil))) (pa_cons pe_str (pa_cons pe_dnewK pa_nil))))))))))
  (pss_cons (ps_for PassesOwn.never rfl (k_piL K rfl (pv 6)) (pg_name (i := 3) sc_law_refused.nd rfl (by first | exact Or.inl rfl | exact Or.inr rfl))
    (pss_one (ps_if (pt_cmpR (k_neD K rfl hr.units) (pe_callG (G_law_caught (P := P) T) gd (hr.mono (by decide)) (by rfl) T.g_law_caught T.F_law_caught.kp T.b_law_caught .nil pass0 (pa_cons pe_int (pa_cons (pv 0) (pa_cons (pv 3) (pa_cons pe_non pa_nil))))) (pe_lst (pa_cons pe_str (pa_cons (pe_callB (k_reprX K rfl gd (hu65 hr)) (by rfl) T.n_repr (by decide +kernel) (pa_cons (pv 3) pa_nil)) pa_nil))) (nomark _))
    (pss_one (ps_ret pe_bl))
    pss_nil)))
  (pss_one (ps_ret (pe_cmpR (k_eqD K rfl hr.units) (pe_callG (G_law_caught (P := P) T) gd (hr.mono (by decide)) (by rfl) T.g_law_caught T.F_law_caught.kp T.b_law_caught .nil pass0 (pa_cons pe_int (pa_cons (pv 0) (pa_cons (pv 5) (pa_cons pe_non pa_nil))))) (pe_lst (pa_cons pe_str pa_nil)) (nomark _)))))))))))), ?_⟩
  obtain ⟨hK, hw, dx0, ha0⟩ := id hC
  refine ⟨(by show 2 ≤ sizeLine; decide), fun a1 na1 => ?_⟩
  obtain ⟨Ha1, ea1, sa1, ha1⟩ := fresh (.tup [V.int 3, .int 3]) na1
  rw [ea1]
  refine ⟨(by show 5 ≤ sizeLine; decide), fun a2 na2 => ?_⟩
  obtain ⟨Ha2, ea2, sa2, ha2⟩ := fresh (.lst [V.non, .int 3, .ref a1, .str (("check" : String) : Str), .bl true]) na2
  rw [ea2]
  have f1 : ∀ x ∈ [V.non, .int 3, .ref a1, .str (("check" : String) : Str), .bl true], (NoC K Ha2 x) ∧ ∃ t, ShwX K Ha2 x t ∧ PyData.strOk t = true := by
    intro x hx
    simp only [List.mem_cons, List.not_mem_nil, or_false] at hx
    rcases hx with rfl | rfl | rfl | rfl | rfl
    · exact ⟨⟨"NoneType", by decide, .base .non⟩, shx_ok .non (by decide +kernel)⟩
    · exact ⟨⟨"int", by decide, .base (.int _)⟩, shx_ok (.int _) (by decide +kernel)⟩
    · exact ⟨⟨"tuple", by decide, .base (.tup (sa2 _ _ ha1))⟩, shx_ok (.tup (.inl (.inl (sa2 _ _ ha1))) (.cons (.int _) (.cons (.int _) .nil))) (by decide +kernel)⟩
    · exact ⟨⟨"str", by decide, .base (.str _)⟩, shx_ok (.str _) (by decide +kernel)⟩
    · exact ⟨⟨"bool", by decide, .base (.bl _)⟩, shx_ok (.bl _) (by decide +kernel)⟩
  refine ⟨a2, rfl, ⟨_, .inl (.inl ha2)⟩, for_list (K := K) (a := a2) (fun i σ HE1 => ∃ v3 v7 v8 : Option V, σ = [some (.ref a), some (.int W), some (.int s), v3, none, none, none, v7, v8] ∧ Same Ha2 HE1) ⟨_, _, _, rfl, Same.refl _⟩ (fun i σ HE _ ⟨_, _, _, _, s⟩ => .inl (.inl (s _ _ ha2))) ?_ ?_⟩
  · rintro i x σ HE1 hx ⟨v3, v7, v8, rfl, sE1⟩
    obtain ⟨hB, t, hS, hok⟩ := f1 x (List.mem_of_getElem? hx)
    refine ⟨_, rfl, by decide, by decide, ?_⟩
    refine for_range (lo := 0) (n := Int.toNat 3) (fun k σ HF => ∃ v7 : Option V, σ = [some (.ref a), some (.int W), some (.int s), some x, none, none, none, v7, v8] ∧ Same Ha2 HF) ⟨v7, rfl, sE1⟩ ?_ ?_
    · rintro k σ HF hk ⟨v7, rfl, sF⟩
      have hk2 : k < 3 := hk
      rw [Int.zero_add]
      refine ⟨_, rfl, _, rfl, k, x, .non, .non, rfl, by omega, .inl ⟨0, x, t, .inl ⟨rfl, rfl, hB.same sF⟩, hS.same sF, fun HXx px sXx npx hpx => ?_⟩⟩
      have hpx : HXx px = some (.lst [.str (("check" : String) : Str), .str t]) := hpx
      refine ⟨_, rfl, (hS.same ((sF).trans sXx)).repr ⟨(by show 2 ≤ sizeLine; decide), fun Mx nMx => ?_⟩⟩
      obtain ⟨HZx, eZx, sZx, hMx⟩ := fresh (.lst [V.str (("check" : String) : Str), V.str t]) nMx
      rw [eZx]
      refine ⟨_, _, .lst (.inl (.inl (sZx _ _ hpx))) (.cons (.str _) (.cons (.str _) .nil)), .lst (.inl (.inl hMx)) (.cons (.str _) (.cons (.str _) .nil)), pair_shaped (by decide +kernel) hok, pair_shaped (by decide +kernel) hok, _, rfl, ?_⟩
      rw [pair_eqv]
      refine iteF ?_
      have s3x := ((sF).trans sXx).trans sZx
      exact ⟨_, rfl, s3x⟩
    · rintro σ HF ⟨v7, rfl, sF⟩
      exact ⟨_, _, _, rfl, sF⟩
  · rintro σ HE1 ⟨v3, v7, v8, rfl, sE1⟩
    have sA : Same H HE1 := ((sa1.trans sa2)).trans sE1
    refine ⟨_, rfl, (by show 1 ≤ sizeLine; decide), fun b1 nb1 => ?_⟩
    obtain ⟨Hb1, eb1, sb1, hb1⟩ := fresh (.tup [V.int 1]) nb1
    rw [eb1]
    refine ⟨(by show 1 ≤ sizeLine; decide), fun b2 nb2 => ?_⟩
    obtain ⟨Hb2, eb2, sb2, hb2⟩ := fresh (.lst [V.int 1]) nb2
    rw [eb2]
    refine ⟨(by show 7 ≤ sizeLine; decide), fun b3 nb3 => ?_⟩
    obtain ⟨Hb3, eb3, sb3, hb3⟩ := fresh (.lst [V.non, .int (-1), .int 1001, .bl true, .str (("3" : String) : Str), .ref b1, .ref b2]) nb3
    rw [eb3]
    have f2 : ∀ x ∈ [V.non, .int (-1), .int 1001, .bl true, .str (("3" : String) : Str), .ref b1, .ref b2], (NumV K Hb3 x 0 (some 1000) false) ∧ ∃ t, ShwX K Hb3 x t ∧ PyData.strOk t = true := by
      intro x hx
      simp only [List.mem_cons, List.not_mem_nil, or_false] at hx
      rcases hx with rfl | rfl | rfl | rfl | rfl | rfl | rfl
      · exact ⟨.inr ⟨.inr ⟨_, .base .non, by decide +kernel⟩, rfl⟩, shx_ok .non (by decide +kernel)⟩
      · exact ⟨.inl ⟨-1, rfl, (decide_eq_false fun z => absurd z.1 (by decide)).symm⟩, shx_ok (.int _) (by decide +kernel)⟩
      · exact ⟨.inl ⟨1001, rfl, (decide_eq_false fun z => absurd (z.2 _ rfl) (by decide)).symm⟩, shx_ok (.int _) (by decide +kernel)⟩
      · exact ⟨.inr ⟨.inl ⟨_, rfl⟩, rfl⟩, shx_ok (.bl _) (by decide +kernel)⟩
      · exact ⟨.inr ⟨.inr ⟨_, .base (.str _), by decide +kernel⟩, rfl⟩, shx_ok (.str _) (by decide +kernel)⟩
      · exact ⟨.inr ⟨.inr ⟨_, .base (.tup (sb3 _ _ (sb2 _ _ hb1))), by decide +kernel⟩, rfl⟩, shx_ok (.tup (.inl (.inl (sb3 _ _ (sb2 _ _ hb1)))) (.cons (.int _) .nil)) (by decide +kernel)⟩
      · exact ⟨.inr ⟨.inr ⟨_, .base (.lst (sb3 _ _ hb2)), by decide +kernel⟩, rfl⟩, shx_ok (dp_row (ns := ([1] : List Int)) (.inl (.inl (sb3 _ _ hb2)))) (by decide +kernel)⟩
    have sA2 : Same H Hb3 := sA.trans ((sb1.trans sb2).trans sb3)
    refine ⟨b3, rfl, ⟨_, .inl (.inl hb3)⟩, for_list (K := K) (a := b3) (fun i σ HE2 => ∃ v3 v7 v8 : Option V, σ = [some (.ref a), some (.int W), some (.int s), v3, none, none, none, v7, v8] ∧ Same Hb3 HE2) ⟨_, _, _, rfl, Same.refl _⟩ (fun i σ HE _ ⟨_, _, _, _, s⟩ => .inl (.inl (s _ _ hb3))) ?_ ?_⟩
    · rintro i x σ HE2 hx ⟨v3, v7, v8, rfl, sE2⟩
      obtain ⟨hB, t, hS, hok⟩ := f2 x (List.mem_of_getElem? hx)
      refine ⟨_, rfl, by decide, by decide, ?_⟩
      refine for_range (lo := 0) (n := Int.toNat 2) (fun k σ HF => ∃ v7 : Option V, σ = [some (.ref a), some (.int W), some (.int s), some x, none, none, none, v7, v8] ∧ Same Hb3 HF) ⟨v7, rfl, sE2⟩ ?_ ?_
      · rintro k σ HF hk ⟨v7, rfl, sF⟩
        have hk2 : k < 2 := hk
        rw [Int.zero_add]
        refine ⟨_, rfl, _, rfl, _, rfl, k, .ref a, x, .non, rfl, by omega, .inl ⟨1, x, t, .inr ⟨a, wd, W, rfl, hC.same (sA2.trans sF), .inl ⟨rfl, by omega, rfl, hB.same sF⟩⟩, hS.same sF, fun HXy py sXy npy hpy => ?_⟩⟩
        have hpy : HXy py = some (.lst [.str (("number" : String) : Str), .str t]) := hpy
        refine ⟨_, rfl, (hS.same ((sF).trans sXy)).repr ⟨(by show 2 ≤ sizeLine; decide), fun My nMy => ?_⟩⟩
        obtain ⟨HZy, eZy, sZy, hMy⟩ := fresh (.lst [V.str (("number" : String) : Str), V.str t]) nMy
        rw [eZy]
        refine ⟨_, _, .lst (.inl (.inl (sZy _ _ hpy))) (.cons (.str _) (.cons (.str _) .nil)), .lst (.inl (.inl hMy)) (.cons (.str _) (.cons (.str _) .nil)), pair_shaped (by decide +kernel) hok, pair_shaped (by decide +kernel) hok, _, rfl, ?_⟩
        rw [pair_eqv]
        refine iteF ?_
        have s3y := ((sF).trans sXy).trans sZy
        exact ⟨_, rfl, s3y⟩
      · rintro σ HF ⟨v7, rfl, sF⟩
        exact ⟨_, _, _, rfl, sF⟩
    · rintro σ HE2 ⟨v3, v7, v8, rfl, sE2⟩
      have sB := sA2.trans sE2
      refine ⟨_, rfl, _, rfl, _, _, rfl, .inr ⟨a, wd, W, rfl, hC.same sB, .inr ⟨s, rfl, by omega, ?_⟩⟩⟩
      have hcl : cntS wd s ≤ 2 ^ 7 := Nat.le_trans (cnt_le wd s) (Nat.pow_le_pow_right (by decide) hs)
      have hcl2 : cntS wd s < 200 := by omega
      generalize hcn : cntS wd s = cn at hcl hcl2
      refine ⟨_, rfl, _, rfl, (by show 1 ≤ sizeLine; decide), fun c1 nc1 => ?_⟩
      obtain ⟨Hc1, ec1, sc1, hc1⟩ := fresh (.lst [V.int 0]) nc1
      rw [ec1]
      refine ⟨(by show 6 ≤ sizeLine; decide), fun c2 nc2 => ?_⟩
      obtain ⟨Hc2, ec2, sc2, hc2⟩ := fresh (.lst [V.non, .int (-1), .bl true, .int (cn : Int), .str (("0" : String) : Str), .ref c1]) nc2
      rw [ec2]
      have f3 : ∀ x ∈ [V.non, .int (-1), .bl true, .int (cn : Int), .str (("0" : String) : Str), .ref c1], (NumV K Hc2 x 0 (some ((cn : Int) - 1)) false) ∧ ∃ t, ShwX K Hc2 x t ∧ PyData.strOk t = true := by
        intro x hx
        simp only [List.mem_cons, List.not_mem_nil, or_false] at hx
        rcases hx with rfl | rfl | rfl | rfl | rfl | rfl
        · exact ⟨.inr ⟨.inr ⟨_, .base .non, by decide +kernel⟩, rfl⟩, shx_ok .non (by decide +kernel)⟩
        · exact ⟨.inl ⟨-1, rfl, (decide_eq_false fun z => absurd z.1 (by decide)).symm⟩, shx_ok (.int _) (by decide +kernel)⟩
        · exact ⟨.inr ⟨.inl ⟨_, rfl⟩, rfl⟩, shx_ok (.bl _) (by decide +kernel)⟩
        · exact ⟨.inl ⟨(cn : Int), rfl, (decide_eq_false fun z => absurd (z.2 _ rfl) (by omega)).symm⟩, shx_ok (.int _) (int_okD cn hcl2)⟩
        · exact ⟨.inr ⟨.inr ⟨_, .base (.str _), by decide +kernel⟩, rfl⟩, shx_ok (.str _) (by decide +kernel)⟩
        · exact ⟨.inr ⟨.inr ⟨_, .base (.lst (sc2 _ _ hc1)), by decide +kernel⟩, rfl⟩, shx_ok (dp_row (ns := ([0] : List Int)) (.inl (.inl (sc2 _ _ hc1)))) (by decide +kernel)⟩
      have sB2 : Same H Hc2 := sB.trans (sc1.trans sc2)
      refine ⟨c2, rfl, ⟨_, .inl (.inl hc2)⟩, for_list (K := K) (a := c2) (fun i σ HE3 => ∃ v3 v7 v8 : Option V, σ = [some (.ref a), some (.int W), some (.int s), v3, some (.int (cn : Nat)), none, none, v7, v8] ∧ Same Hc2 HE3) ⟨_, _, _, rfl, Same.refl _⟩ (fun i σ HE _ ⟨_, _, _, _, s⟩ => .inl (.inl (s _ _ hc2))) ?_ ?_⟩
      · rintro i x σ HE3 hx ⟨v3, v7, v8, rfl, sE3⟩
        obtain ⟨hB, t, hS, hok⟩ := f3 x (List.mem_of_getElem? hx)
        refine ⟨_, rfl, _, rfl, _, rfl, 1, .ref a, .int s, x, rfl, by decide, .inl ⟨1, x, t, .inr ⟨a, wd, W, rfl, hC.same (sB2.trans sE3), .inr (.inl ⟨rfl, rfl, rfl, s, rfl, by omega, by rw [hcn]; exact hB.same sE3⟩)⟩, hS.same sE3, fun HXz pz sXz npz hpz => ?_⟩⟩
        have hpz : HXz pz = some (.lst [.str (("number" : String) : Str), .str t]) := hpz
        refine ⟨_, rfl, (hS.same ((sE3).trans sXz)).repr ⟨(by show 2 ≤ sizeLine; decide), fun Mz nMz => ?_⟩⟩
        obtain ⟨HZz, eZz, sZz, hMz⟩ := fresh (.lst [V.str (("number" : String) : Str), V.str t]) nMz
        rw [eZz]
        refine ⟨_, _, .lst (.inl (.inl (sZz _ _ hpz))) (.cons (.str _) (.cons (.str _) .nil)), .lst (.inl (.inl hMz)) (.cons (.str _) (.cons (.str _) .nil)), pair_shaped (by decide +kernel) hok, pair_shaped (by decide +kernel) hok, _, rfl, ?_⟩
        rw [pair_eqv]
        refine iteF ?_
        have s3z := ((sE3).trans sXz).trans sZz
        exact ⟨_, _, _, rfl, s3z⟩
      · rintro σ HE3 ⟨v3, v7, v8, rfl, sE3⟩
        have sC := sB2.trans sE3
        refine ⟨_, rfl, W, wd + 1, rfl, hK.hi, by omega, fun HR r sR nr hr => ?_⟩
        have sCR := sC.trans sR
        obtain ⟨mid, ers, hpw, hle, good_right⟩ := ones_form hK
        have hdat := right_ok hK hw5
        generalize onesN W (wd + 1) = rs at hr ers hpw hle hdat good_right
        have hrl : rs.length ≤ 6 := hdat.1
        have hlast : rs.getLast? = some wd := by rw [ers, ← List.cons_append, List.getLast?_append]; rfl
        refine ⟨(by show 0 ≤ sizeLine; decide), fun d1 nd1 => ?_⟩
        obtain ⟨Hd1, ed1, sd1, hd1⟩ := fresh (.lst ([] : List V)) nd1
        rw [ed1]
        refine ⟨(by show 1 ≤ sizeLine; decide), fun d2 nd2 => ?_⟩
        obtain ⟨Hd2, ed2, sd2, hd2⟩ := fresh (.lst [V.int 0]) nd2
        rw [ed2]
        refine ⟨(by show 1 ≤ sizeLine; decide), fun d3 nd3 => ?_⟩
        obtain ⟨Hd3, ed3, sd3, hd3⟩ := fresh (.lst [V.int 1]) nd3
        rw [ed3]
        refine ⟨(by show 2 ≤ sizeLine; decide), fun d4 nd4 => ?_⟩
        obtain ⟨Hd4, ed4, sd4, hd4⟩ := fresh (.tup [V.int 0, .int 1]) nd4
        rw [ed4]
        refine ⟨_, rfl, r, _, rfl, .inl (.inl (sd4 _ _ (sd3 _ _ (sd2 _ _ (sd1 _ _ hr))))), fun d5 nd5 => ?_⟩
        rw [← List.map_reverse]
        obtain ⟨Hd5, ed5, sd5, hd5⟩ := fresh (.lst ((natI rs).reverse.map V.int)) nd5
        rw [ed5]
        refine ⟨_, rfl, _, rfl, _, rfl, _, rfl, r, _, rfl, .inl (.inl (sd5 _ _ (sd4 _ _ (sd3 _ _ (sd2 _ _ (sd1 _ _ hr)))))), fun d6 nd6 => ?_⟩
        rw [cut_end ers]
        obtain ⟨Hd6, ed6, sd6, hd6⟩ := fresh (.lst ([V.int (wd : Int)])) nd6
        rw [ed6]
        refine ⟨r, d6, _, _, rfl, rfl, (sd6 _ _ (sd5 _ _ (sd4 _ _ (sd3 _ _ (sd2 _ _ (sd1 _ _ hr)))))), hd6, by rw [nat_len]; show _ + 1 ≤ _; rw [sizeLine_eq]; omega, fun d7 nd7 => ?_⟩
        rw [← map_one]
        obtain ⟨Hd7, ed7, sd7, hd7⟩ := fresh (.lst ((natI rs ++ [(wd : Int)]).map V.int)) nd7
        rw [ed7]
        refine ⟨_, rfl, r, rfl, ⟨_, .inl (.inl (sd7 _ _ (sd6 _ _ (sd5 _ _ (sd4 _ _ (sd3 _ _ (sd2 _ _ (sd1 _ _ hr))))))))⟩, fun D nD => ?_⟩
        refine lc_mapL (K := K) (a := r) (xs := (natI rs).map V.int) ((natI (rs.map (· + 1))).map V.int) nD (.inl (.inl (sd7 _ _ (sd6 _ _ (sd5 _ _ (sd4 _ _ (sd3 _ _ (sd2 _ _ (sd1 _ _ hr))))))))) (by rw [nat_len, nat_len, List.length_map]) (by rw [nat_len]; exact small1000' (by omega)) (fun x => rfl) ?_ ?_
        · intro i x y H' hx hy s' Qt qt
          obtain ⟨u, hu, rfl⟩ := nat_at hx
          obtain ⟨u2, hu2, rfl⟩ := nat_at hy
          rw [List.getElem?_map, hu] at hu2
          cases hu2
          exact ⟨_, rfl, _, _, rfl, rfl, qt _ (Same.refl _)⟩
        intro HD sD hD
        refine ⟨_, rfl, _, rfl, r, _, rfl, .inl (.inl (sD _ _ (sd7 _ _ (sd6 _ _ (sd5 _ _ (sd4 _ _ (sd3 _ _ (sd2 _ _ (sd1 _ _ hr))))))))), fun d8 nd8 => ?_⟩
        rw [show (some (1 : Int)) = some ((1 : Nat) : Int) from rfl, cut_drop, ← List.map_drop, show (natI rs).drop 1 = natI (rs.drop 1) by unfold natI; rw [List.map_drop]]
        obtain ⟨Hd8, ed8, sd8, hd8⟩ := fresh (.lst ((natI (rs.drop 1)).map V.int)) nd8
        rw [ed8]
        refine ⟨(by show 9 ≤ sizeLine; decide), fun d9 nd9 => ?_⟩
        obtain ⟨Hd9, ed9, sd9, hd9⟩ := fresh (.lst [V.non, .ref d1, .ref d2, .ref d3, .ref d4, .ref d5, .ref d7, .ref D, .ref d8]) nd9
        rw [ed9]
        refine ⟨_, rfl, (by show 2 ≤ sizeLine; decide), fun d10 nd10 => ?_⟩
        obtain ⟨Hd10, ed10, sd10, hd10⟩ := fresh (.lst [V.int 0, .bl true]) nd10
        rw [ed10]
        refine ⟨(by show 2 ≤ sizeLine; decide), fun d11 nd11 => ?_⟩
        obtain ⟨Hd11, ed11, sd11, hd11⟩ := fresh (.lst [V.int 0, .str (("1" : String) : Str)]) nd11
        rw [ed11]
        refine ⟨_, rfl, (by show 1 ≤ sizeLine; decide), fun d12 nd12 => ?_⟩
        obtain ⟨Hd12, ed12, sd12, hd12⟩ := fresh (.lst [V.int (-1)]) nd12
        rw [ed12]
        refine ⟨_, rfl, d12, r, _, _, rfl, rfl, hd12, (sd12 _ _ (sd11 _ _ (sd10 _ _ (sd9 _ _ (sd8 _ _ (sD _ _ (sd7 _ _ (sd6 _ _ (sd5 _ _ (sd4 _ _ (sd3 _ _ (sd2 _ _ (sd1 _ _ hr))))))))))))), by rw [nat_len]; show 1 + _ ≤ _; rw [sizeLine_eq]; omega, fun d13 nd13 => ?_⟩
        rw [show [V.int (-1)] ++ (natI rs).map V.int = ((-1 : Int) :: natI rs).map V.int from rfl]
        obtain ⟨Hd13, ed13, sd13, hd13⟩ := fresh (.lst (((-1 : Int) :: natI rs).map V.int)) nd13
        rw [ed13]
        refine ⟨_, _, rfl, rfl, ⟨by decide, by decide +kernel⟩, _, _, rfl, rfl, (by show 2 ≤ sizeLine; decide), fun d14 nd14 => ?_⟩
        rw [show [V.int 0, V.int (10 ^ (18 : Int).toNat + 1)] = ([0, 1000000000000000001] : List Int).map V.int by decide +kernel]
        obtain ⟨Hd14, ed14, sd14, hd14⟩ := fresh (.lst (([0, 1000000000000000001] : List Int).map V.int)) nd14
        rw [ed14]
        refine ⟨_, rfl, _, rfl, _, rfl, r, _, rfl, .inl (.inl (sd14 _ _ (sd13 _ _ (sd12 _ _ (sd11 _ _ (sd10 _ _ (sd9 _ _ (sd8 _ _ (sD _ _ (sd7 _ _ (sd6 _ _ (sd5 _ _ (sd4 _ _ (sd3 _ _ (sd2 _ _ (sd1 _ _ hr)))))))))))))))), fun d15 nd15 => ?_⟩
        rw [cut_ini]
        obtain ⟨Hd15, ed15, sd15, hd15⟩ := fresh (.lst ((natI rs.dropLast).map V.int)) nd15
        rw [ed15]
        refine ⟨_, rfl, _, rfl, r, _, _, _, rfl, rfl, .inl (.inl (sd15 _ _ (sd14 _ _ (sd13 _ _ (sd12 _ _ (sd11 _ _ (sd10 _ _ (sd9 _ _ (sd8 _ _ (sD _ _ (sd7 _ _ (sd6 _ _ (sd5 _ _ (sd4 _ _ (sd3 _ _ (sd2 _ _ (sd1 _ _ hr))))))))))))))))), nat_last hlast, _, _, rfl, rfl, (by show 1 ≤ sizeLine; decide), fun d16 nd16 => ?_⟩
        obtain ⟨Hd16, ed16, sd16, hd16⟩ := fresh (.lst [V.int ((wd : Int) + 1001)]) nd16
        rw [ed16]
        refine ⟨d15, d16, _, _, rfl, rfl, (sd16 _ _ hd15), hd16, by rw [nat_len, List.length_dropLast]; show _ + 1 ≤ _; rw [sizeLine_eq]; omega, fun d17 nd17 => ?_⟩
        rw [map_far]
        obtain ⟨Hd17, ed17, sd17, hd17⟩ := fresh (.lst ((natI (rs.dropLast ++ [wd + 1001])).map V.int)) nd17
        rw [ed17]
        refine fun d18 nd18 => ?_
        obtain ⟨Hd18, ed18, sd18, hd18⟩ := fresh (.dK []) nd18
        rw [ed18]
        refine ⟨(by show 7 ≤ sizeLine; decide), fun d19 nd19 => ?_⟩
        obtain ⟨Hd19, ed19, sd19, hd19⟩ := fresh (.lst [V.ref d10, .ref d11, .ref d13, .ref d14, .ref d17, .str (("01" : String) : Str), .ref d18]) nd19
        rw [ed19]
        refine ⟨d9, d19, _, _, rfl, rfl, (sd19 _ _ (sd18 _ _ (sd17 _ _ (sd16 _ _ (sd15 _ _ (sd14 _ _ (sd13 _ _ (sd12 _ _ (sd11 _ _ (sd10 _ _ hd9)))))))))), hd19, (by show 9 + 7 ≤ sizeLine; decide), fun d20 nd20 => ?_⟩
        rw [show ([V.non, .ref d1, .ref d2, .ref d3, .ref d4, .ref d5, .ref d7, .ref D, .ref d8] ++ [V.ref d10, .ref d11, .ref d13, .ref d14, .ref d17, .str (("01" : String) : Str), .ref d18] : List V) = [V.non, .ref d1, .ref d2, .ref d3, .ref d4, .ref d5, .ref d7, .ref D, .ref d8, .ref d10, .ref d11, .ref d13, .ref d14, .ref d17, .str (("01" : String) : Str), .ref d18] from rfl]
        obtain ⟨Hd20, ed20, sd20, hd20⟩ := fresh (.lst [V.non, .ref d1, .ref d2, .ref d3, .ref d4, .ref d5, .ref d7, .ref D, .ref d8, .ref d10, .ref d11, .ref d13, .ref d14, .ref d17, .str (("01" : String) : Str), .ref d18]) nd20
        rw [ed20]
        have f4 : ∀ x ∈ ([V.non, .ref d1, .ref d2, .ref d3, .ref d4, .ref d5, .ref d7, .ref D, .ref d8, .ref d10, .ref d11, .ref d13, .ref d14, .ref d17, .str (("01" : String) : Str), .ref d18] : List V), (BadP K Hd20 x ∨ ∃ (b : Addr) (ts : List Nat), x = .ref b ∧ Hd20 b = some (.lst ((natI ts).map V.int)) ∧ Rising ts ∧ BadShape wd W ts) ∧ ∃ t, ShwX K Hd20 x t ∧ PyData.strOk t = true := by
          intro x hx
          simp only [List.mem_cons, List.not_mem_nil, or_false] at hx
          rcases hx with rfl | rfl | rfl | rfl | rfl | rfl | rfl | rfl | rfl | rfl | rfl | rfl | rfl | rfl | rfl | rfl
          · exact ⟨.inl (.inl ⟨_, .base .non, by decide +kernel⟩), shx_ok .non (by decide +kernel)⟩
          · exact ⟨.inr ⟨d1, [], rfl, (sd20 _ _ (sd19 _ _ (sd18 _ _ (sd17 _ _ (sd16 _ _ (sd15 _ _ (sd14 _ _ (sd13 _ _ (sd12 _ _ (sd11 _ _ (sd10 _ _ (sd9 _ _ (sd8 _ _ (sD _ _ (sd7 _ _ (sd6 _ _ (sd5 _ _ (sd4 _ _ (sd3 _ _ (sd2 _ _ hd1)))))))))))))))))))), ⟨List.Pairwise.nil, (fun _ z => nomatch z), by decide⟩, .inl (fun z => nomatch z)⟩, shx_ok (dp_row (ns := []) (.inl (.inl (sd20 _ _ (sd19 _ _ (sd18 _ _ (sd17 _ _ (sd16 _ _ (sd15 _ _ (sd14 _ _ (sd13 _ _ (sd12 _ _ (sd11 _ _ (sd10 _ _ (sd9 _ _ (sd8 _ _ (sD _ _ (sd7 _ _ (sd6 _ _ (sd5 _ _ (sd4 _ _ (sd3 _ _ (sd2 _ _ hd1))))))))))))))))))))))) (by decide +kernel)⟩
          · exact ⟨.inr ⟨d2, [0], rfl, (sd20 _ _ (sd19 _ _ (sd18 _ _ (sd17 _ _ (sd16 _ _ (sd15 _ _ (sd14 _ _ (sd13 _ _ (sd12 _ _ (sd11 _ _ (sd10 _ _ (sd9 _ _ (sd8 _ _ (sD _ _ (sd7 _ _ (sd6 _ _ (sd5 _ _ (sd4 _ _ (sd3 _ _ hd2))))))))))))))))))), ⟨List.pairwise_singleton _ _, (fun t h => by rw [List.mem_singleton.mp h]; decide), by decide⟩, .inr (.inr (by rw [val_nought hK]; decide))⟩, shx_ok (dp_row (ns := [0]) (.inl (.inl (sd20 _ _ (sd19 _ _ (sd18 _ _ (sd17 _ _ (sd16 _ _ (sd15 _ _ (sd14 _ _ (sd13 _ _ (sd12 _ _ (sd11 _ _ (sd10 _ _ (sd9 _ _ (sd8 _ _ (sD _ _ (sd7 _ _ (sd6 _ _ (sd5 _ _ (sd4 _ _ (sd3 _ _ hd2)))))))))))))))))))))) (by decide +kernel)⟩
          · exact ⟨.inr ⟨d3, [1], rfl, (sd20 _ _ (sd19 _ _ (sd18 _ _ (sd17 _ _ (sd16 _ _ (sd15 _ _ (sd14 _ _ (sd13 _ _ (sd12 _ _ (sd11 _ _ (sd10 _ _ (sd9 _ _ (sd8 _ _ (sD _ _ (sd7 _ _ (sd6 _ _ (sd5 _ _ (sd4 _ _ hd3)))))))))))))))))), ⟨List.pairwise_singleton _ _, (fun t h => by rw [List.mem_singleton.mp h]; decide), by decide⟩, .inl (by decide)⟩, shx_ok (dp_row (ns := [1]) (.inl (.inl (sd20 _ _ (sd19 _ _ (sd18 _ _ (sd17 _ _ (sd16 _ _ (sd15 _ _ (sd14 _ _ (sd13 _ _ (sd12 _ _ (sd11 _ _ (sd10 _ _ (sd9 _ _ (sd8 _ _ (sD _ _ (sd7 _ _ (sd6 _ _ (sd5 _ _ (sd4 _ _ hd3))))))))))))))))))))) (by decide +kernel)⟩
          · exact ⟨.inl (.inl ⟨_, .base (.tup (sd20 _ _ (sd19 _ _ (sd18 _ _ (sd17 _ _ (sd16 _ _ (sd15 _ _ (sd14 _ _ (sd13 _ _ (sd12 _ _ (sd11 _ _ (sd10 _ _ (sd9 _ _ (sd8 _ _ (sD _ _ (sd7 _ _ (sd6 _ _ (sd5 _ _ hd4)))))))))))))))))), by decide +kernel⟩), shx_ok (.tup (.inl (.inl (sd20 _ _ (sd19 _ _ (sd18 _ _ (sd17 _ _ (sd16 _ _ (sd15 _ _ (sd14 _ _ (sd13 _ _ (sd12 _ _ (sd11 _ _ (sd10 _ _ (sd9 _ _ (sd8 _ _ (sD _ _ (sd7 _ _ (sd6 _ _ (sd5 _ _ hd4))))))))))))))))))) (.cons (.int _) (.cons (.int _) .nil))) (by decide +kernel)⟩
          · exact ⟨.inl (.inr (.inr ⟨d5, (natI rs).reverse, rfl, (sd20 _ _ (sd19 _ _ (sd18 _ _ (sd17 _ _ (sd16 _ _ (sd15 _ _ (sd14 _ _ (sd13 _ _ (sd12 _ _ (sd11 _ _ (sd10 _ _ (sd9 _ _ (sd8 _ _ (sD _ _ (sd7 _ _ (sd6 _ _ hd5)))))))))))))))), by rw [List.length_reverse, natI_len]; omega, btw_rev hw5 hle, not_rev hK.pos ers⟩)), shx_ok (dp_row (.inl (.inl (sd20 _ _ (sd19 _ _ (sd18 _ _ (sd17 _ _ (sd16 _ _ (sd15 _ _ (sd14 _ _ (sd13 _ _ (sd12 _ _ (sd11 _ _ (sd10 _ _ (sd9 _ _ (sd8 _ _ (sD _ _ (sd7 _ _ (sd6 _ _ hd5))))))))))))))))))) hdat.2.1⟩
          · exact ⟨.inl (.inr (.inr ⟨d7, natI rs ++ [(wd : Int)], rfl, (sd20 _ _ (sd19 _ _ (sd18 _ _ (sd17 _ _ (sd16 _ _ (sd15 _ _ (sd14 _ _ (sd13 _ _ (sd12 _ _ (sd11 _ _ (sd10 _ _ (sd9 _ _ (sd8 _ _ (sD _ _ hd7)))))))))))))), by rw [List.length_append, natI_len]; show _ + 1 ≤ _; omega, btw_dbl hw5 hle, not_dbl ers⟩)), shx_ok (dp_row (.inl (.inl (sd20 _ _ (sd19 _ _ (sd18 _ _ (sd17 _ _ (sd16 _ _ (sd15 _ _ (sd14 _ _ (sd13 _ _ (sd12 _ _ (sd11 _ _ (sd10 _ _ (sd9 _ _ (sd8 _ _ (sD _ _ hd7))))))))))))))))) hdat.2.2.1⟩
          · exact ⟨.inr ⟨D, rs.map (· + 1), rfl, (sd20 _ _ (sd19 _ _ (sd18 _ _ (sd17 _ _ (sd16 _ _ (sd15 _ _ (sd14 _ _ (sd13 _ _ (sd12 _ _ (sd11 _ _ (sd10 _ _ (sd9 _ _ (sd8 _ _ hD))))))))))))), rise_up hpw hle hrl hw5, .inl (by rw [ers]; simp)⟩, shx_ok (dp_row (.inl (.inl (sd20 _ _ (sd19 _ _ (sd18 _ _ (sd17 _ _ (sd16 _ _ (sd15 _ _ (sd14 _ _ (sd13 _ _ (sd12 _ _ (sd11 _ _ (sd10 _ _ (sd9 _ _ (sd8 _ _ hD)))))))))))))))) hdat.2.2.2.1⟩
          · exact ⟨.inr ⟨d8, rs.drop 1, rfl, (sd20 _ _ (sd19 _ _ (sd18 _ _ (sd17 _ _ (sd16 _ _ (sd15 _ _ (sd14 _ _ (sd13 _ _ (sd12 _ _ (sd11 _ _ (sd10 _ _ (sd9 _ _ hd8)))))))))))), rise_drop hpw hle hrl hw5, .inl (head_drop ers hpw)⟩, shx_ok (dp_row (.inl (.inl (sd20 _ _ (sd19 _ _ (sd18 _ _ (sd17 _ _ (sd16 _ _ (sd15 _ _ (sd14 _ _ (sd13 _ _ (sd12 _ _ (sd11 _ _ (sd10 _ _ (sd9 _ _ hd8))))))))))))))) hdat.2.2.2.2.1⟩
          · exact ⟨.inl (.inr (.inl ⟨d10, _, [true, false], rfl, (sd20 _ _ (sd19 _ _ (sd18 _ _ (sd17 _ _ (sd16 _ _ (sd15 _ _ (sd14 _ _ (sd13 _ _ (sd12 _ _ (sd11 _ _ hd10)))))))))), by decide, rfl, two_num (.inl ⟨0, rfl, by decide⟩) (.inr ⟨.inl ⟨_, rfl⟩, rfl⟩), rfl⟩)), shx_ok (.lst (.inl (.inl (sd20 _ _ (sd19 _ _ (sd18 _ _ (sd17 _ _ (sd16 _ _ (sd15 _ _ (sd14 _ _ (sd13 _ _ (sd12 _ _ (sd11 _ _ hd10)))))))))))) (.cons (.int _) (.cons (.bl _) .nil))) (by decide +kernel)⟩
          · exact ⟨.inl (.inr (.inl ⟨d11, _, [true, false], rfl, (sd20 _ _ (sd19 _ _ (sd18 _ _ (sd17 _ _ (sd16 _ _ (sd15 _ _ (sd14 _ _ (sd13 _ _ (sd12 _ _ hd11))))))))), by decide, rfl, two_num (.inl ⟨0, rfl, by decide⟩) (.inr ⟨.inr ⟨_, .base (.str _), by decide +kernel⟩, rfl⟩), rfl⟩)), shx_ok (.lst (.inl (.inl (sd20 _ _ (sd19 _ _ (sd18 _ _ (sd17 _ _ (sd16 _ _ (sd15 _ _ (sd14 _ _ (sd13 _ _ (sd12 _ _ hd11))))))))))) (.cons (.int _) (.cons (.str _) .nil))) (by decide +kernel)⟩
          · exact ⟨.inl (.inr (.inl ⟨d13, _, false :: List.replicate rs.length true, rfl, (sd20 _ _ (sd19 _ _ (sd18 _ _ (sd17 _ _ (sd16 _ _ (sd15 _ _ (sd14 _ _ hd13))))))), by rw [List.length_map, List.length_cons, natI_len]; omega, by rw [List.length_map, List.length_cons, List.length_cons, natI_len, List.length_replicate], neg_num hle hw5, rfl⟩)), shx_ok (dp_row (.inl (.inl (sd20 _ _ (sd19 _ _ (sd18 _ _ (sd17 _ _ (sd16 _ _ (sd15 _ _ (sd14 _ _ hd13)))))))))) hdat.2.2.2.2.2.1⟩
          · exact ⟨.inl (.inr (.inl ⟨d14, _, [true, false], rfl, (sd20 _ _ (sd19 _ _ (sd18 _ _ (sd17 _ _ (sd16 _ _ (sd15 _ _ hd14)))))), by decide, rfl, two_num (.inl ⟨0, rfl, by decide⟩) (.inl ⟨1000000000000000001, rfl, by decide⟩), rfl⟩)), shx_ok (dp_row (ns := [0, 1000000000000000001]) (.inl (.inl (sd20 _ _ (sd19 _ _ (sd18 _ _ (sd17 _ _ (sd16 _ _ (sd15 _ _ hd14))))))))) (by decide +kernel)⟩
          · exact ⟨.inr ⟨d17, rs.dropLast ++ [wd + 1001], rfl, (sd20 _ _ (sd19 _ _ (sd18 _ _ hd17))), rise_far ers hpw hle hrl hw5, .inr (.inl ⟨wd + 1001, by rw [List.getLast?_append]; rfl, by omega⟩)⟩, shx_ok (dp_row (.inl (.inl (sd20 _ _ (sd19 _ _ (sd18 _ _ hd17)))))) hdat.2.2.2.2.2.2⟩
          · exact ⟨.inl (.inl ⟨_, .base (.str _), by decide +kernel⟩), shx_ok (.str _) (by decide +kernel)⟩
          · exact ⟨.inl (.inl ⟨_, .base (.dK (sd20 _ _ (sd19 _ _ hd18))), by decide +kernel⟩), shx_dict (sd20 _ _ (sd19 _ _ hd18))⟩
        have sD2 : Same H Hd20 := sCR.trans ((((((((((((((((((((sd1.trans sd2).trans sd3).trans sd4).trans sd5).trans sd6).trans sd7).trans sD).trans sd8).trans sd9).trans sd10).trans sd11).trans sd12).trans sd13).trans sd14).trans sd15).trans sd16).trans sd17).trans sd18).trans sd19).trans sd20)
        refine ⟨_, rfl, d20, rfl, ⟨_, .inl (.inl hd20)⟩, for_list (K := K) (a := d20) (fun i σ HE4 => ∃ v3 v7 v8 : Option V, σ = [some (.ref a), some (.int W), some (.int s), v3, some (.int (cn : Nat)), some (.ref r), some (.ref d20), v7, v8] ∧ Same Hd20 HE4) ⟨_, _, _, rfl, Same.refl _⟩ (fun i σ HE _ ⟨_, _, _, _, s⟩ => .inl (.inl (s _ _ hd20))) ?_ ?_⟩
        · rintro i x σ HE4 hx ⟨v3, v7, v8, rfl, sE4⟩
          obtain ⟨hB, t, hS, hok⟩ := f4 x (List.mem_of_getElem? hx)
          have hB : BadP K HE4 x ∨ ∃ (b : Addr) (ts : List Nat), x = .ref b ∧ HE4 b = some (.lst ((natI ts).map V.int)) ∧ Rising ts ∧ BadShape wd W ts := hB.elim (fun h => .inl (h.same sE4)) fun ⟨b, ts, e, h1, h2⟩ => .inr ⟨b, ts, e, sE4 _ _ h1, h2⟩
          refine ⟨_, rfl, _, rfl, 2, .ref a, x, .non, rfl, by decide, .inl ⟨2, x, t, .inr ⟨a, wd, W, rfl, hC.same (sD2.trans sE4), .inr (.inr ⟨rfl, rfl, rfl, hB⟩)⟩, hS.same sE4, fun HXu pu sXu npu hpu => ?_⟩⟩
          have hpu : HXu pu = some (.lst [.str (("places" : String) : Str), .str t]) := hpu
          refine ⟨_, rfl, (hS.same ((sE4).trans sXu)).repr ⟨(by show 2 ≤ sizeLine; decide), fun Mu nMu => ?_⟩⟩
          obtain ⟨HZu, eZu, sZu, hMu⟩ := fresh (.lst [V.str (("places" : String) : Str), V.str t]) nMu
          rw [eZu]
          refine ⟨_, _, .lst (.inl (.inl (sZu _ _ hpu))) (.cons (.str _) (.cons (.str _) .nil)), .lst (.inl (.inl hMu)) (.cons (.str _) (.cons (.str _) .nil)), pair_shaped (by decide +kernel) hok, pair_shaped (by decide +kernel) hok, _, rfl, ?_⟩
          rw [pair_eqv]
          refine iteF ?_
          have s3u := ((sE4).trans sXu).trans sZu
          exact ⟨_, _, _, rfl, s3u⟩
        · rintro σ HE4 ⟨v3, v7, v8, rfl, sE4⟩
          have sF := sD2.trans sE4
          refine ⟨_, rfl, _, rfl, 2, .ref a, .ref r, .non, rfl, by decide, .inr ⟨rfl, a, r, wd, W, rs, rfl, hC.same sF, rfl, sE4 _ _ (sd20 _ _ (sd19 _ _ (sd18 _ _ (sd17 _ _ (sd16 _ _ (sd15 _ _ (sd14 _ _ (sd13 _ _ (sd12 _ _ (sd11 _ _ (sd10 _ _ (sd9 _ _ (sd8 _ _ (sD _ _ (sd7 _ _ (sd6 _ _ (sd5 _ _ (sd4 _ _ (sd3 _ _ (sd2 _ _ (sd1 _ _ hr))))))))))))))))))))), rise_right hpw hle hrl hw5, good_right hw, fun HX pX sX npX hpX => ?_⟩⟩
          refine ⟨(by show 1 ≤ sizeLine; decide), fun M nM => ?_⟩
          obtain ⟨HZ, eZ, sZ, hM⟩ := fresh (.lst [V.str (("let" : String) : Str)]) nM
          rw [eZ]
          refine ⟨_, _, .lst (.inl (.inl (sZ _ _ hpX))) (.cons (.str _) .nil), .lst (.inl (.inl hM)) (.cons (.str _) .nil), by decide +kernel, by decide +kernel, ?_⟩
          exact q _ ((sF.trans sX).trans sZ)
        
end
end My

namespace My
open PySem PySem.Spec PyProof.Rows L2 Pre
/-! ### the law -/
theorem known_shapes : ∀ n : Nat, n < 4 → natI (onesN (shapeN 3 11 6 n) 7) = [[0, 2, 6], [0, 1, 4, 6], [0, 3, 5, 6], [0, 1, 2, 3, 4, 5, 6]].getD n [] := by decide +kernel
local macro_rules | `(tactic| walk_at "go") => `(tactic| repeat (first | (with_reducible first | refine iteT ?_ | refine iteF ?_ | refine iteNtt ?_ | refine iteNff ?_ | refine iteET (by omega) ?_ | refine iteEF (by omega) ?_ | refine iteENT (by omega) ?_ | refine iteENF (by omega) ?_ | refine iteDT (by omega) ?_ | refine iteDF (by omega) ?_ | refine iteNT (by omega) ?_ | refine iteNF (by omega) ?_) | refine ⟨_, rfl, ?_⟩ | refine ⟨_, _, rfl, rfl, ?_⟩ | refine ⟨_, _, rfl, ?_⟩ | refine ⟨rfl, ?_⟩ | refine .inl ⟨_, rfl, ?_⟩ | refine .inr ⟨_, rfl, ?_⟩))
local macro_rules | `(tactic| walk_at "b") => `(tactic| try dsimp (config := { proj := false, iota := false, eta := false, zeta := false }) only)
section
variable {P : Program} {w : World} {K : PySem.W.Frag} {mg : Str → Option Value} {base : Heap} [pf : Sup.PF P fileS]
def sp_law (K : PySem.W.Frag) : Sp := fun vs H Q _ => ∃ (a : Addr) (ns : List Int), vs = [.ref a] ∧ SqL K H a (ns.map V.int) ∧ ns.length ≤ 63 ∧ ∀ H', Q (.bl true) H'
theorem G_law (T : Top K mg) : FnG P w K mg base CX0 9 T.f_law T.fd_law ["_law_script"] (sp_law K) := by
  refine FnG.body T.F_law sc_law (fun vs H Q E h => by obtain ⟨a, ns, rfl, _⟩ := h; rfl) (fun cdv A outer s H vs Q E gd hr h => ?_)
  obtain ⟨a, ns, rfl, hS, hn, q⟩ := h
  refine ⟨_, PSs.nox (pss_cons (ps_for PassesOwn.never rfl (pi_range1 (by rfl) T.n_range (pa_cons pe_int pa_nil)) (pg_name (i := 1) sc_law.nd rfl (by first | exact Or.inl rfl | exact Or.inr rfl))
    (pss_cons (ps_set (i := 3) sc_law.nd rfl (by first | exact Or.inl rfl | exact Or.inr rfl) (pe_call (G_law_generator (P := P) T) (hr.mono (by decide)) (by rfl) T.g_law_generator T.F_law_generator.kp T.b_law_generator .nil pass0 (pa_cons (pv 0) (pa_cons (pv 1) pa_nil))))
  (pss_cons (ps_set (i := 4) sc_law.nd rfl (by first | exact Or.inl rfl | exact Or.inr rfl) (pe_op op_add pe_int (pe_call (G_law_random (P := P) T) (hr.mono (by decide)) (by rfl) T.g_law_random T.F_law_random.kp T.b_law_random .nil pass0 (pa_cons (pv 3) (pa_cons pe_int pa_nil)))))
  (pss_cons (ps_set (i := 5) sc_law.nd rfl (by first | exact Or.inl rfl | exact Or.inr rfl) (pe_call (G_law_drawn (P := P) T) (hr.mono (by decide)) (by rfl) T.g_law_drawn T.F_law_drawn.kp T.b_law_drawn .nil pass0 (pa_cons (pv 3) (pa_cons (pv 4) pa_nil))))
  (pss_cons (ps_par (by rfl) sc_law.nd (i := 7) (j := 8) rfl rfl (by decide) rfl rfl (pa_cons (pe_make T.mk_Check (G_Check___init__ (P := P) T) (hr.mono (by decide)) (by rfl) T.gc_Check T.b_Check___init__ .nil pass0 (pa_cons (pv 4) (pa_cons (pv 5) pa_nil))) (pa_cons (pe_op op_add (pe_op op_shl pe_int (pv 4)) (pv 5)) pa_nil)) (by rfl))
  (pss_cons (ps_for PassesOwn.never rfl (pi_range2 (by rfl) T.n_range (pa_cons pe_int (pa_cons (pe_op op_add pe_int (pe_call (G_law_random (P := P) T) (hr.mono (by decide)) (by rfl) T.g_law_random T.F_law_random.kp T.b_law_random .nil pass0 (pa_cons (pv 3) (pa_cons pe_int pa_nil)))) pa_nil))) (pg_name (i := 6) sc_law.nd rfl (by first | exact Or.inl rfl | exact Or.inr rfl))
    (pss_one (ps_if (pt_not (pt_val (pe_call (G_law_small_right (P := P) T) (hr.mono (by decide)) (by rfl) T.g_law_small_right T.F_law_small_right.kp T.b_law_small_right .nil pass0 (pa_cons (pv 7) (pa_cons (pv 8) (pa_cons (pv 6) pa_nil))))))
    (pss_one (ps_ret pe_bl))
    pss_nil)))
  (pss_cons (ps_if (PW.pt (pw_or (pt_cmpR op_ne (pe_call (G_how_many_shapes (P := P) T) (hr.mono (by decide)) (by rfl) T.g_how_many_shapes T.F_how_many_shapes.kp T.b_how_many_shapes .nil passL (pa_cons (pv 7) (pa_cons pe_int pa_nil))) pe_int (nomark _)) (pw_or1 (pt_not (pt_val (pe_callG (G_law_refused (P := P) T) gd (hr.mono (by decide)) (by rfl) T.g_law_refused T.F_law_refused.kp T.b_law_refused .nil pass0 (pa_cons (pv 7) (pa_cons (pv 8) (pa_cons (pe_call (G_law_random (P := P) T) (hr.mono (by decide)) (by rfl) T.g_law_random T.F_law_random.kp T.b_law_random .nil pass0 (pa_cons (pv 3) (pa_cons pe_int pa_nil))) pa_nil)))))))))
    (pss_one (ps_ret pe_bl))
    pss_nil)
  (pss_cons (ps_set (i := 4) sc_law.nd rfl (by first | exact Or.inl rfl | exact Or.inr rfl) (pe_op op_add pe_int (pe_call (G_law_random (P := P) T) (hr.mono (by decide)) (by rfl) T.g_law_random T.F_law_random.kp T.b_law_random .nil pass0 (pa_cons (pv 3) (pa_cons pe_int pa_nil)))))
  (pss_cons (ps_set (i := 5) sc_law.nd rfl (by first | exact Or.inl rfl | exact Or.inr rfl) (pe_call (G_law_drawn (P := P) T) (hr.mono (by decide)) (by rfl) T.g_law_drawn T.F_law_drawn.kp T.b_law_drawn .nil pass0 (pa_cons (pv 3) (pa_cons (pv 4) pa_nil))))
  (pss_one (ps_if (pt_not (pt_val (pe_call (G_law_great_right (P := P) T) (hr.mono (by decide)) (by rfl) T.g_law_great_right T.F_law_great_right.kp T.b_law_great_right .nil pass0 (pa_cons (pv 3) (pa_cons (pe_make T.mk_Check (G_Check___init__ (P := P) T) (hr.mono (by decide)) (by rfl) T.gc_Check T.b_Check___init__ .nil pass0 (pa_cons (pv 4) (pa_cons (pv 5) pa_nil))) (pa_cons (pe_op op_add (pe_op op_shl pe_int (pv 4)) (pv 5)) (pa_cons (pe_call (G_law_random (P := P) T) (hr.mono (by decide)) (by rfl) T.g_law_random T.F_law_random.kp T.b_law_random .nil pass0 (pa_cons (pv 3) (pa_cons pe_int pa_nil))) pa_nil)))))))
    (pss_one (ps_ret pe_bl))
    pss_nil)))))))))))
  (pss_cons (ps_setLc (i := 2) (own := [("_law_number", 9)]) (g := gName 9) (tt := tYes) (by rfl) sc_law.nd rfl rfl (sw_true rfl rfl rfl (by decide +kernel)) (pi_range1 (by rfl) T.n_range (pa_cons pe_int pa_nil)) (blkOk_by (own := [("_law_number", 9)]) (N := N_law) (sc := defScope s_law) (by decide +kernel)) (fun _ _ _ _ _ => (pg_name (i := 9) sc_law.nd rfl (by first | exact Or.inl rfl | exact Or.inr rfl))) (fun _ _ _ _ _ => pts_nil) (fun _ _ _ _ _ => (pe_call (G_shape_at (P := P) T) (hr.mono (by decide)) (by rfl) T.g_shape_at T.F_shape_at.kp T.b_shape_at .nil passL (pa_cons (pe_make T.mk_Check (G_Check___init__ (P := P) T) (hr.mono (by decide)) (by rfl) T.gc_Check T.b_Check___init__ .nil pass0 (pa_cons pe_int (pa_cons pe_int pa_nil))) (pa_cons pe_int (pa_cons (pv 9) pa_nil))))))
  (pss_one (ps_ret (pe_cmpR (k_eqD K rfl hr.units) (pv 2) (pe_lst (pa_cons (pe_lst (pa_cons pe_int (pa_cons pe_int (pa_cons pe_int pa_nil)))) (pa_cons (pe_lst (pa_cons pe_int (pa_cons pe_int (pa_cons pe_int (pa_cons pe_int pa_nil))))) (pa_cons (pe_lst (pa_cons pe_int (pa_cons pe_int (pa_cons pe_int (pa_cons pe_int pa_nil))))) (pa_cons (pe_lst (pa_cons pe_int (pa_cons pe_int (pa_cons pe_int (pa_cons pe_int (pa_cons pe_int (pa_cons pe_int (pa_cons pe_int pa_nil)))))))) pa_nil))))) (nomark _)))))), ?_⟩
  refine ⟨_, rfl, by decide, by decide, ?_⟩
  refine for_range (lo := 0) (n := ((2 : Int)).toNat) (fun i σ H1 => ∃ v1 v3 v4 v5 v6 v7 v8, σ = [some (.ref a), v1, none, v3, v4, v5, v6, v7, v8, none] ∧ Same H H1) ⟨none, none, none, none, none, none, none, rfl, Same.refl _⟩ ?_ ?_
  · rintro i σ H1 hi ⟨v1, v3, v4, v5, v6, v7, v8, rfl, s1⟩
    rw [show (0 : Int) + (i : Int) = i by omega]
    have hi3 : i < 2 := hi
    refine ⟨_, rfl, _, rfl, a, ns, i, rfl, s1.seq hS, fun H2 g s2 ng g2 => ?_⟩
    have s02 := s1.trans s2
    have nHg : H g = none := s1.free ng
    refine ⟨_, rfl, g, _, _, rfl, g2, by omega, by decide, small_2900 (by decide), fun r1 H3 r10 r11 g3 b3 => ?_⟩
    refine ⟨_, _, rfl, rfl, ?_⟩
    obtain ⟨wd, hwd⟩ : ∃ wd : Nat, 1 + r1 = (wd : Int) := ⟨(1 + r1).toNat, by omega⟩
    have w1 : 1 ≤ wd := by omega
    have w5 : wd ≤ 5 := by omega
    walk_at "b"
    rw [hwd]
    refine ⟨_, rfl, _, rfl, g, _, wd, rfl, g3, by omega, w1, by omega, fun l H4 l1 l2 g4 b4 => ?_⟩
    refine ⟨_, rfl, _, rfl, ?_⟩
    intro c dx nc ndx nec
    obtain ⟨H5, e5⟩ : ∃ H5, upd (upd H4 dx (.own c)) c (.ins T.C_Check dx []) = H5 := ⟨_, rfl⟩
    rw [e5]
    have s5 : Same H4 H5 := fun b o e => by
      rw [← e5, upd_ne (ne_of_none e nc), upd_ne (ne_of_none e ndx)]
      exact e
    refine ⟨c, dx, wd, l, rfl, by rw [← e5]; exact upd_same, w1, by omega, l1, l2, fun H6 k6 hC6 => ?_⟩
    have s46 : Same H4 H6 := fun b o e => k6 b o (ne_of_none e nc) (s5 _ _ e)
    have g6 := g4.same s46
    have b26 : But g H2 H6 := (b3.trans b4).same s46
    have eW : (1 : Int) * 2 ^ ((wd : Int)).toNat + (l : Int) = ((2 ^ wd + l : Nat) : Int) := by
      rw [Int.one_mul, Int.toNat_natCast, ← pow_cast]
      omega
    refine ⟨rfl, _, rfl, _, _, rfl, rfl, ⟨by omega, by omega, by decide⟩, _, rfl, _, _, rfl, rfl, _, _, rfl, ?_⟩
    walk_at "b"
    rw [eW]
    obtain ⟨W, hW⟩ : ∃ W, W = 2 ^ wd + l := ⟨_, rfl⟩
    rw [← hW] at hC6 ⊢
    obtain ⟨xg, yg, zg, hg6, _⟩ := id g6
    have ncg : c ≠ g := hC6.ne hg6
    have hK := hC6.1
    refine ⟨_, rfl, g, _, _, rfl, g6, by omega, by decide, small_2900 (by decide), fun r2 H7 r20 r21 g7 b7 => ?_⟩
    refine ⟨_, _, rfl, rfl, _, _, rfl, ⟨by decide, by decide, by omega, by omega⟩, ?_⟩
    have hC7 := hC6.but ncg b7
    refine for_range (lo := 1) (n := ((1 : Int) + r2 - 1).toNat) (fun j σ H8 => ∃ v6, σ = [some (.ref a), some (.int i), none, some (.ref g), some (.int wd), some (.int l), v6, some (.ref c), some (.int W), none] ∧ Same H7 H8) ⟨_, rfl, Same.refl _⟩ ?_ ?_
    · rintro j σ H8 hj ⟨v6, rfl, s8⟩
      rw [show (1 : Int) + (j : Int) = ((j + 1 : Nat) : Int) by omega]
      exact ⟨_, rfl, _, rfl, _, rfl, c, wd, W, j + 1, rfl, hC7.same s8, by omega, fun H9 s9 => ⟨true, rfl, iteNtt ⟨_, rfl, s8.trans s9⟩⟩⟩
    · rintro σ H8 ⟨v6, rfl, s8⟩
      have hC8 := hC7.same s8
      have c0 : cntS wd 0 = 0 := by
        unfold cntS
        rw [if_neg (by omega), if_neg (by omega)]
      refine ⟨_, rfl, _, _, rfl, .inr ⟨c, wd, W, rfl, hC8, .inr ⟨0, rfl, by decide, rfl, _, rfl, iteENF (by rw [c0]; rfl) ?_⟩⟩⟩
      refine ⟨_, rfl, _, rfl, _, rfl, g, _, _, rfl, g7.same s8, by omega, by decide, small_2900 (by decide), fun r3 H9 r30 r31 g9 b9 => ?_⟩
      obtain ⟨s3, hs3⟩ : ∃ s3 : Nat, r3 = (s3 : Int) := ⟨r3.toNat, by omega⟩
      subst hs3
      have hC9 := hC8.but ncg b9
      refine ⟨c, wd, W, s3, rfl, hC9, w5, by omega, fun H10 s10 => ⟨true, rfl, iteNtt ?_⟩⟩
      have g10 := g9.same s10
      refine ⟨_, rfl, g, _, _, rfl, g10, by omega, by decide, small_2900 (by decide), fun r4 H11 r40 r41 g11 b11 => ?_⟩
      refine ⟨_, _, rfl, rfl, ?_⟩
      obtain ⟨wd2, hwd2⟩ : ∃ wd2 : Nat, 1 + r4 = (wd2 : Int) := ⟨(1 + r4).toNat, by omega⟩
      have x1 : 1 ≤ wd2 := by omega
      have x16 : wd2 ≤ 16 := by omega
      walk_at "b"
      rw [hwd2]
      refine ⟨_, rfl, _, rfl, g, _, wd2, rfl, g11, by omega, x1, by omega, fun l3 H12 l4 l5 g12 b12 => ?_⟩
      refine ⟨_, rfl, _, rfl, _, rfl, ?_⟩
      intro c2 dx2 nc2 ndx2 nec2
      obtain ⟨H13, e13⟩ : ∃ H13, upd (upd H12 dx2 (.own c2)) c2 (.ins T.C_Check dx2 []) = H13 := ⟨_, rfl⟩
      rw [e13]
      have s13 : Same H12 H13 := fun b o e => by
        rw [← e13, upd_ne (ne_of_none e nc2), upd_ne (ne_of_none e ndx2)]
        exact e
      refine ⟨c2, dx2, wd2, l3, rfl, by rw [← e13]; exact upd_same, x1, by omega, l4, l5, fun H14 k14 hC14 => ?_⟩
      have s1214 : Same H12 H14 := fun b o e => k14 b o (ne_of_none e nc2) (s13 _ _ e)
      have g14 := g12.same s1214
      have eW2 : (1 : Int) * 2 ^ ((wd2 : Int)).toNat + (l3 : Int) = ((2 ^ wd2 + l3 : Nat) : Int) := by
        rw [Int.one_mul, Int.toNat_natCast, ← pow_cast]
        omega
      refine ⟨rfl, _, rfl, _, _, rfl, rfl, ⟨by omega, by omega, by decide⟩, _, rfl, _, _, rfl, rfl, _, rfl, g, _, _, rfl, g14, by omega, by decide, small_2900 (by decide), fun r5 H15 r50 r51 g15 b15 => ?_⟩
      walk_at "b"
      rw [eW2]
      obtain ⟨s5', hs5⟩ : ∃ s5' : Nat, r5 = (s5' : Int) := ⟨r5.toNat, by omega⟩
      subst hs5
      obtain ⟨xg2, yg2, zg2, hg14, _⟩ := id g14
      have ncg2 : c2 ≠ g := hC14.ne hg14
      refine ⟨g, c2, wd2, _, s5', _, rfl, hC14.but ncg2 b15, by omega, g15, by omega, fun H16 b16 g16 => ⟨true, rfl, iteNtt ?_⟩⟩
      have bAll : But g H2 H16 := ((((((((b26.trans b7).same s8).trans b9).same s10).trans b11).trans b12).same s1214).trans b15).trans b16
      exact ⟨_, _, _, _, _, _, _, rfl, But.fresh s02 nHg bAll⟩
  · rintro σ H1 ⟨v1, v3, v4, v5, v6, v7, v8, rfl, s1⟩
    let rowsK : List (List Int) := [[0, 2, 6], [0, 1, 4, 6], [0, 3, 5, 6], [0, 1, 2, 3, 4, 5, 6]]
    refine ⟨_, rfl, by decide, by decide, fun D nD => ?_⟩
    refine lc_relR (lo := 0) (n := Int.toNat 4) (fun i y H => ∃ p : Addr, y = .ref p ∧ p ≠ D ∧ H p = some (.lst ((rowsK.getD i []).map V.int))) nD (by rw [sizeLine_eq]; decide) (fun i y H H' o ⟨p, e, n, h⟩ => ⟨p, e, n, o _ _ n h⟩) (fun x => rfl) ?_ ?_
    · intro i H2 xs hi s2 hD Qt qt
      have hi4 : i < 4 := hi
      intro c dx nc ndx nec
      obtain ⟨H3, e3⟩ : ∃ H3, upd (upd H2 dx (.own c)) c (.ins T.C_Check dx []) = H3 := ⟨_, rfl⟩
      rw [e3]
      have s3 : Same H2 H3 := fun b o e => by
        rw [← e3, upd_ne (ne_of_none e nc), upd_ne (ne_of_none e ndx)]
        exact e
      refine ⟨c, dx, 3, 3, rfl, by rw [← e3]; exact upd_same, by decide, by decide, by decide, by decide, fun H4 k4 hC4 => ⟨rfl, ?_⟩⟩
      have s4 : Same H2 H4 := fun b o e => k4 b o (ne_of_none e nc) (s3 _ _ e)
      rw [Int.zero_add]
      refine ⟨_, rfl, _, _, _, rfl, .inr ⟨c, 3, 11, rfl, hC4, .inr ⟨6, rfl, by decide, .inr ⟨i, rfl, hi4, by decide, fun H5 p s5 np hp => ?_⟩⟩⟩⟩
      rw [known_shapes i hi4] at hp
      exact qt _ _ (s4.trans s5) ⟨p, rfl, (fun z => absurd np (by rw [z, s4 _ _ hD]; exact fun z => nomatch z)), hp⟩
    · intro H2 ys s2 hD hl hR
      have hl4 : ys.length = 4 := hl
      refine ⟨_, rfl, ?_⟩
      refine ⟨(by show 3 ≤ sizeLine; decide), fun d1 n1 => ?_⟩
      obtain ⟨G1, e1, t1, h1⟩ := fresh (.lst (([0, 2, 6] : List Int).map V.int)) n1
      rw [show upd H2 d1 (.lst [V.int 0, V.int 2, V.int 6]) = G1 from e1]
      refine ⟨(by show 4 ≤ sizeLine; decide), fun d2 n2 => ?_⟩
      obtain ⟨G2, e2, t2, h2⟩ := fresh (.lst (([0, 1, 4, 6] : List Int).map V.int)) n2
      rw [show upd G1 d2 (.lst [V.int 0, V.int 1, V.int 4, V.int 6]) = G2 from e2]
      refine ⟨(by show 4 ≤ sizeLine; decide), fun d3 n3 => ?_⟩
      obtain ⟨G3, e3, t3, h3⟩ := fresh (.lst (([0, 3, 5, 6] : List Int).map V.int)) n3
      rw [show upd G2 d3 (.lst [V.int 0, V.int 3, V.int 5, V.int 6]) = G3 from e3]
      refine ⟨(by show 7 ≤ sizeLine; decide), fun d4 n4 => ?_⟩
      obtain ⟨G4, e4, t4, h4⟩ := fresh (.lst (([0, 1, 2, 3, 4, 5, 6] : List Int).map V.int)) n4
      rw [show upd G3 d4 (.lst [V.int 0, V.int 1, V.int 2, V.int 3, V.int 4, V.int 5, V.int 6]) = G4 from e4]
      refine ⟨(by show 4 ≤ sizeLine; decide), fun d5 n5 => ?_⟩
      obtain ⟨G5, e5, t5, h5⟩ := fresh (.lst (([d1, d2, d3, d4] : List Addr).map V.ref)) n5
      rw [show upd G4 d5 (.lst [V.ref d1, V.ref d2, V.ref d3, V.ref d4]) = G5 from e5]
      have tA := (((t1.trans t2).trans t3).trans t4).trans t5
      obtain ⟨as, has, hal⟩ : ∃ as : List Addr, ys = as.map V.ref ∧ ∀ (i : Nat) (p : Addr), as[i]? = some p → H2 p = some (.lst ((rowsK.getD i []).map V.int)) := by
        obtain ⟨y0, r0, rfl⟩ : ∃ y0 r0, ys = y0 :: r0 := List.exists_cons_of_length_pos (by omega)
        obtain ⟨y1, r1, rfl⟩ : ∃ y1 r1, r0 = y1 :: r1 := List.exists_cons_of_length_pos (by simp at hl4; omega)
        obtain ⟨y2, r2, rfl⟩ : ∃ y2 r2, r1 = y2 :: r2 := List.exists_cons_of_length_pos (by simp at hl4; omega)
        obtain ⟨y3, r3, rfl⟩ : ∃ y3 r3, r2 = y3 :: r3 := List.exists_cons_of_length_pos (by simp at hl4; omega)
        obtain rfl : r3 = [] := by simp at hl4; exact hl4
        obtain ⟨p0, rfl, _, k0⟩ := hR 0 _ rfl
        obtain ⟨p1, rfl, _, k1⟩ := hR 1 _ rfl
        obtain ⟨p2, rfl, _, k2⟩ := hR 2 _ rfl
        obtain ⟨p3, rfl, _, k3⟩ := hR 3 _ rfl
        refine ⟨[p0, p1, p2, p3], rfl, fun i p h => ?_⟩
        match i, h with
        | 0, h => cases h; exact k0
        | 1, h => cases h; exact k1
        | 2, h => cases h; exact k2
        | 3, h => cases h; exact k3
        | i + 4, h => simp at h
      have hL : RowsIn G5 D rowsK := by
        have hla : as.length = 4 := by rw [has, List.length_map] at hl4; exact hl4
        refine ⟨as, by rw [tA _ _ hD, has], hla, fun i p r hp hr => ?_⟩
        have := hal i p hp
        rw [List.getD_eq_getElem?_getD, hr] at this
        exact tA _ _ this
      have hRr : RowsIn G5 d5 rowsK := by
        refine ⟨[d1, d2, d3, d4], h5, rfl, fun i p r hp hr => ?_⟩
        match i, hp, hr with
        | 0, hp, hr => cases hp; cases hr; exact t5 _ _ (t4 _ _ (t3 _ _ (t2 _ _ h1)))
        | 1, hp, hr => cases hp; cases hr; exact t5 _ _ (t4 _ _ (t3 _ _ h2))
        | 2, hp, hr => cases hp; cases hr; exact t5 _ _ (t4 _ _ h3)
        | 3, hp, hr => cases hp; cases hr; exact t5 _ _ h4
        | i + 4, hp, hr => simp at hp
      exact eq_rows hL hRr rfl (q _)
end
end My

open PySem PySem.W PySem.Calls PyProof.Rows
set_option maxRecDepth 100000 in
set_option maxHeartbeats 0 in
theorem PySem.Challenge.cw_wholesound_k63_shapes_in_spans_holds : PySem.Challenge.rw_wholesound_k63_shapes_in_spans.Holds := by
  w_on; o_law
  refine HandSHeadRun.head_any (r := OpenLaw.row PySem.Challenge.rw_wholesound_k63_shapes_in_spans) (q := view (OpenLaw.row PySem.Challenge.rw_wholesound_k63_shapes_in_spans).prog [42]) (H := My.hk) (ob := My.ob) (M := 8000) (loose := My.loose) (d := HandSHeadRun.topDef (OpenLaw.row PySem.Challenge.rw_wholesound_k63_shapes_in_spans).prog 42) (kwd := []) My.ob_eq
    (by kernel_rfl) (fun s => by kernel_rfl) My.run (by kernel_rfl) (by kernel_rfl) (by kernel_rfl) (by rfl) (by first | assumption | decide +kernel) (by decide +kernel) ⟨rfl, rfl, rfl, rfl, rfl, by decide +kernel⟩ ?hw ?hc
  case hw => w_witness2
  case hc =>
    refine My.end_g (l := PySem.Challenge.rw_wholesound_k63_shapes_in_spans) (n := 63) (k := 9) (x := "_law_script") rfl (by decide) (by kernel_rfl) ⟨rfl, by decide, by decide⟩ ?F
    intro w mg fa h Y G hmg0
    obtain ⟨K, KX, c⟩ := Y
    have hmg : mg ("law" : PySem.Str) = some (.ref fa) := by
      have e : (HandSHeadRun.topDef (OpenLaw.row PySem.Challenge.rw_wholesound_k63_shapes_in_spans).prog 42).name = ("law" : PySem.Str) := by kernel_rfl
      rw [← e]
      exact hmg0
    have T : My.Top K mg := My.top_mk KX G c
    have e := hmg.symm.trans T.g_law
    cases e
    have b := L2.FunD.bindsA (ps := ["_law_script"]) T.F_law fun _ _ _ _ _ _ us hl => match us, hl with | [_], _ => rfl
    exact ⟨K, T.fd_law, My.sp_law K, KX, fun s v => b s [v] rfl, fun H a ns hl hS => ⟨a, ns, rfl, hS, hl, fun _ => rfl⟩, fun base _ _ => My.G_law (pf := ⟨by kernel_rfl, by kernel_rfl⟩) T⟩


