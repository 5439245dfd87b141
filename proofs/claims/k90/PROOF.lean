import PyProof.Rows.All
import Wide.All
import OpenK.AllK
import Wide.FinOn
import KE.KStateDown
import Lean
import HandS.ForMost
import HandS.Exc
import HandS.Flow
import HandS.DictComp
import HandS.Style
import HandS.Wide
import HandS.WideBits
import HandS.IsInst
import HandS.Codes
import HandS.Walk
import HandS.Words
import HandS.WordsExc
import HandS.Defaults
import HandS.Head0
import HandS.Head1
import HandS.Head2
import HandS.HeadEnd
import HandS.HeadHook1
import HandS.HeadHook2
import HandS.SortInts
import PyProof.Rows.SortShellAny
import PyProof.InstNe
import KE.DataMinMax
import KE.SortData
import KE.IntBitsLaws
import KE.BitLaws
import HandS.Deep
import HandS.SetKeys
import PyProof.Rows.StrMul
import HandS.TupLe
import HandS.Property
import HandS.Conv
import HandS.NoneIn
import HandS.SetFor
import HandS.Strs
import HandS.Sort
import HandS.StrMore
import HandS.ExcInit
import HandS.ExcSuper
import HandS.Nested
import KE.KExcSuper
import HandS.ExcField
import HandS.TryMany
import HandS.ExcIs
import HandS.TryOnly
import HandS.CallSlots
import KE.KDictDisplayH
import PyProof.StrLawsFirst
import KE.GoesZip
import KE.GoesMore
import HandS.Zip
import PyProof.CallType
import PyProof.ZipIter
import PyProof.TupleIter
import PyProof.Rows.CallKwBuiltin
import HandS.Star
import PySem.Challenge.RW_wholesound_k90_marks_and_rows_without_th
set_option Elab.async false
set_option linter.all false
set_option maxRecDepth 100000
set_option maxHeartbeats 4000000
set_option exponentiation.threshold 100000
namespace Pre
open PySem PySem.Spec PyProof.Rows L2
/-! ### heaps -/
theorem same_upd {H : Hp} {p : Addr} {o : HO} (h : H p = none) : Same H (upd H p o) := fun b x e => by
  rw [upd_ne (ne_of_none e h)]
  exact e
/-- a fresh thing that is then changed is no change of what was -/
theorem same_over {H H' : Hp} {p : Addr} {o : HO} (n : H p = none) (s : Same H H') : Same H (upd H' p o) := fun b x e => by
  rw [upd_ne (ne_of_none e n)]
  exact s b x e
theorem Same.tup {K : PySem.W.Frag} {H H' : Hp} {a : Addr} {xs : List V} (e : Same H H') (h : SqT K H a xs) : SqT K H' a xs := by
  rcases h with (h | ⟨o, h⟩) | h
  · exact .inl (.inl (e _ _ h))
  · exact .inl (.inr ⟨o, e _ _ h⟩)
  · exact .inr h
mutual
theorem dp_same {K : PySem.W.Frag} {H H' : Hp} (s : Same H H') : ∀ (d : PyData) (v : V), Dp K H v d → Dp K H' v d
  | .none, _, h => by cases h; exact .non
  | .bool _, _, h => by cases h; exact .bl _
  | .int _, _, h => by cases h; exact .int _
  | .str _, _, h => by cases h; exact .str _
  | .list ds, _, h => by cases h with | lst a b => exact .lst (s.seq a) (dps_same s ds _ b)
  | .tuple ds, _, h => by cases h with | tup a b => exact .tup (Same.tup s a) (dps_same s ds _ b)
  | .dict _, _, h => nomatch h
theorem dps_same {K : PySem.W.Frag} {H H' : Hp} (s : Same H H') : ∀ (ds : List PyData) (vs : List V), DpAll K H vs ds → DpAll K H' vs ds
  | [], _, h => by cases h; exact .nil
  | d :: ds, _, h => by cases h with | cons a b => exact .cons (dp_same s d _ a) (dps_same s ds _ b)
end
theorem dp_ints {K : PySem.W.Frag} {H : Hp} : ∀ ns : List Int, DpAll K H (ns.map V.int) (ns.map PyData.int)
  | [] => .nil
  | n :: r => .cons (.int n) (dp_ints r)
theorem eqv_ints : ∀ ns ms : List Int, PyData.eqvAll (ns.map PyData.int) (ms.map PyData.int) = decide (ns = ms)
  | [], [] => rfl
  | [], _ :: _ => rfl
  | _ :: _, [] => rfl
  | n :: r, m :: q => by
    show (PyData.eqv (.int n) (.int m) && PyData.eqvAll (r.map PyData.int) (q.map PyData.int)) = decide (n :: r = m :: q)
    rw [eqv_ints r q]
    show ((n == m) && decide (r = q)) = decide (n :: r = m :: q)
    by_cases h : n = m
    · subst h; simp
    · simp [h]
theorem lay_ints : ∀ ns : List Int, PyData.canLayAll0 (ns.map PyData.int) = true
  | [] => rfl
  | n :: r => by
    show (PyData.canLay0 (.int n) && PyData.canLayAll0 (r.map PyData.int)) = true
    rw [lay_ints r]
    rfl
theorem depth_ints : ∀ ns : List Int, PyData.depthAll (ns.map PyData.int) = 0
  | [] => by simp [PyData.depthAll]
  | n :: r => by
    show PyData.depthAll (.int n :: r.map PyData.int) = 0
    rw [PyData.depthAll, depth_ints r]
    simp [PyData.depth]
theorem shaped_ints (ns : List Int) : SeqAt.shaped (.list (ns.map PyData.int)) = true := by
  unfold SeqAt.shaped
  rw [PyData.canLay0, lay_ints, PyData.depth, depth_ints]
  rfl
theorem shaped_tup (ns : List Int) : SeqAt.shaped (.tuple (ns.map PyData.int)) = true := by
  unfold SeqAt.shaped
  rw [PyData.canLay0, lay_ints, PyData.depth, depth_ints]
  rfl
/-! ### comparisons of lists and tuples of whole numbers that are told alike -/
theorem ne_tup {K : PySem.W.Frag} {H : Hp} {a b : Addr} {ns : List Int} {Q : V → Hp → Prop} (ha : SqT K H a (ns.map V.int)) (hb : SqT K H b (ns.map V.int)) (q : Q (.bl false) H) : rNeD K (.ref a) (.ref b) H Q := by
  refine ⟨.tuple (ns.map PyData.int), .tuple (ns.map PyData.int), .tup ha (dp_ints ns), .tup hb (dp_ints ns), shaped_tup ns, shaped_tup ns, ?_⟩
  rw [PyData.eqv, eqv_ints, decide_eq_true rfl]
  exact q
theorem eq_tup {K : PySem.W.Frag} {H : Hp} {a b : Addr} {ns : List Int} {Q : V → Hp → Prop} (ha : SqT K H a (ns.map V.int)) (hb : SqT K H b (ns.map V.int)) (q : Q (.bl true) H) : rEqD K (.ref a) (.ref b) H Q := by
  refine ⟨.tuple (ns.map PyData.int), .tuple (ns.map PyData.int), .tup ha (dp_ints ns), .tup hb (dp_ints ns), shaped_tup ns, shaped_tup ns, ?_⟩
  rw [PyData.eqv, eqv_ints, decide_eq_true rfl]
  exact q
/-- lists of whole numbers, compared -/
theorem eqD_lst {K : PySem.W.Frag} {H : Hp} {a b : Addr} {ns ms : List Int} {Q : V → Hp → Prop} (ha : SqL K H a (ns.map V.int)) (hb : SqL K H b (ms.map V.int)) (q : Q (.bl (decide (ns = ms))) H) : rEqD K (.ref a) (.ref b) H Q := by
  refine ⟨.list (ns.map PyData.int), .list (ms.map PyData.int), .lst ha (dp_ints ns), .lst hb (dp_ints ms), shaped_ints ns, shaped_ints ms, ?_⟩
  rw [PyData.eqv, eqv_ints]
  exact q
theorem neD_lst {K : PySem.W.Frag} {H : Hp} {a b : Addr} {ns ms : List Int} {Q : V → Hp → Prop} (ha : SqL K H a (ns.map V.int)) (hb : SqL K H b (ms.map V.int)) (q : Q (.bl (!decide (ns = ms))) H) : rNeD K (.ref a) (.ref b) H Q := by
  refine ⟨.list (ns.map PyData.int), .list (ms.map PyData.int), .lst ha (dp_ints ns), .lst hb (dp_ints ms), shaped_ints ns, shaped_ints ms, ?_⟩
  rw [PyData.eqv, eqv_ints]
  exact q
theorem ne_lst {K : PySem.W.Frag} {H : Hp} {a b : Addr} {ns : List Int} {Q : V → Hp → Prop} (ha : SqL K H a (ns.map V.int)) (hb : SqL K H b (ns.map V.int)) (q : Q (.bl false) H) : rNeD K (.ref a) (.ref b) H Q :=
  neD_lst ha hb (by rw [decide_eq_true rfl]; exact q)
theorem eq_lst {K : PySem.W.Frag} {H : Hp} {a b : Addr} {ns : List Int} {Q : V → Hp → Prop} (ha : SqL K H a (ns.map V.int)) (hb : SqL K H b (ns.map V.int)) (q : Q (.bl true) H) : rEqD K (.ref a) (.ref b) H Q :=
  eqD_lst ha hb (by rw [decide_eq_true rfl]; exact q)
/-! ### powers -/
def CPowW (i j : Int) : Prop := 0 ≤ j ∧ (Builtin.Int.intBits i : Int) * j ≤ 2 ^ 27
theorem op_powW {X : Cx} : OpR X (binaryOp .Pow) (rI CPowW fun i j => .int (i ^ j.toNat)) := opI fun _ _ _ _ _ _ _ hc q => pow_int hc.1 hc.2 q
/-! ### comprehensions whose parts leave what is tracked as it is: sel tells of each item what comes of it -/
theorem take_fm {α : Type} {l : List (Option α)} {i : Nat} {o : Option α} (h : l[i]? = some o) : (l.take (i + 1)).filterMap id = (l.take i).filterMap id ++ o.toList := by
  rw [List.take_add_one, h, List.filterMap_append]
  cases o <;> rfl
theorem fm_len {α : Type} (l : List (Option α)) (i : Nat) : ((l.take i).filterMap id).length ≤ l.length :=
  Nat.le_trans (List.length_filterMap_le _ _) (by rw [List.length_take]; omega)
theorem lc_selL {K : PySem.W.Frag} {a : Addr} {xs : List V} {j : Nat} {tt : TT} {te : TE} {vs : List Nat} {σ : L2.St} {H1 : Hp} {D : Addr} {Qd : Hp → Prop} (sel : List (Option V)) (nD : H1 D = none) (hS : SqL K H1 a xs) (hlen : sel.length = xs.length) (hz : xs.length < sizeLine)
    (hw : ∀ x, wipe ((wipe σ vs).set j (some x)) vs = wipe σ vs)
    (hs : ∀ (i : Nat) (x : V) (o : Option V) (H' : Hp), xs[i]? = some x → sel[i]? = some o → Same H1 H' → ∀ Qt : Option V → Hp → Prop, (∀ H'', Same H' H'' → Qt o H'') →
      tt ((wipe σ vs).set j (some x)) H' fun b H3 => if b = true then te ((wipe σ vs).set j (some x)) H3 fun y H4 => Qt (some y) H4 else Qt none H3)
    (hd : ∀ H', Same H1 H' → H' D = some (.lst (sel.filterMap id)) → Qd H') :
    ∃ W : Nat → Nat → Hp → Prop, (∃ m, W 0 m (upd H1 D (.lst []))) ∧ ∀ i m H, W i m H →
      ((Itl K a).stop i H ∧ Qd H) ∨ ((Itl K a).go i H ∧ ∃ Nx : Hp → Prop, (∀ H', Nx H' → ∃ m', m' < m ∧ W (i + 1) m' H') ∧ ∀ x H', (Itl K a).yld i H x H' → gName j x (wipe σ vs) H' fun σ2 H2 => wipe σ2 vs = wipe σ vs ∧ tt σ2 H2 fun b H3 =>
        if b = true then te σ2 H3 fun y H4 => ∃ acc, H4 D = some (.lst acc) ∧ acc.length < sizeLine ∧ Nx (upd H4 D (.lst (acc ++ [y]))) else Nx H3) := by
  refine lc_list (K := K) (a := a) (xs := xs) (fun i H => Same H1 H ∧ H D = some (.lst ((sel.take i).filterMap id))) ⟨same_upd nD, upd_same⟩ (fun i H _ p => p.1.seq hS) ?_ ?_
  · rintro i x H hx ⟨s, hD⟩
    refine ⟨hw x, ?_⟩
    have hi : i < sel.length := by rw [hlen]; exact (List.getElem?_eq_some_iff.mp hx).1
    have ho : sel[i]? = some sel[i] := List.getElem?_eq_getElem hi
    have hl : ((sel.take i).filterMap id).length < sizeLine := Nat.lt_of_le_of_lt (fm_len sel i) (by omega)
    refine hs i x sel[i] H hx ho s (fun o H4 => match o with
      | some y => ∃ acc, H4 D = some (.lst acc) ∧ acc.length < sizeLine ∧ (Same H1 (upd H4 D (.lst (acc ++ [y]))) ∧ (upd H4 D (.lst (acc ++ [y]))) D = some (.lst ((sel.take (i + 1)).filterMap id)))
      | none => Same H1 H4 ∧ H4 D = some (.lst ((sel.take (i + 1)).filterMap id))) fun H4 s4 => ?_
    generalize sel[i] = o at ho ⊢
    cases o with
    | some y =>
      refine ⟨_, s4 _ _ hD, hl, same_over nD (s.trans s4), ?_⟩
      rw [upd_same, take_fm ho]
      rfl
    | none =>
      refine ⟨s.trans s4, ?_⟩
      rw [take_fm ho, s4 _ _ hD]
      simp
  · rintro H ⟨s, hD⟩
    refine hd H s ?_
    rw [hD, ← hlen, List.take_length]
theorem lc_selR {lo : Int} {n : Nat} {j : Nat} {tt : TT} {te : TE} {vs : List Nat} {σ : L2.St} {H1 : Hp} {D : Addr} {Qd : Hp → Prop} (sel : List (Option V)) (nD : H1 D = none) (hlen : sel.length = n) (hz : n < sizeLine)
    (hw : ∀ x, wipe ((wipe σ vs).set j (some x)) vs = wipe σ vs)
    (hs : ∀ (i : Nat) (o : Option V) (H' : Hp), i < n → sel[i]? = some o → Same H1 H' → ∀ Qt : Option V → Hp → Prop, (∀ H'', Same H' H'' → Qt o H'') →
      tt ((wipe σ vs).set j (some (.int (lo + (i : Int))))) H' fun b H3 => if b = true then te ((wipe σ vs).set j (some (.int (lo + (i : Int))))) H3 fun y H4 => Qt (some y) H4 else Qt none H3)
    (hd : ∀ H', Same H1 H' → H' D = some (.lst (sel.filterMap id)) → Qd H') :
    ∃ W : Nat → Nat → Hp → Prop, (∃ m, W 0 m (upd H1 D (.lst []))) ∧ ∀ i m H, W i m H →
      ((Itr lo n).stop i H ∧ Qd H) ∨ ((Itr lo n).go i H ∧ ∃ Nx : Hp → Prop, (∀ H', Nx H' → ∃ m', m' < m ∧ W (i + 1) m' H') ∧ ∀ x H', (Itr lo n).yld i H x H' → gName j x (wipe σ vs) H' fun σ2 H2 => wipe σ2 vs = wipe σ vs ∧ tt σ2 H2 fun b H3 =>
        if b = true then te σ2 H3 fun y H4 => ∃ acc, H4 D = some (.lst acc) ∧ acc.length < sizeLine ∧ Nx (upd H4 D (.lst (acc ++ [y]))) else Nx H3) := by
  refine lc_range (lo := lo) (n := n) (fun i H => Same H1 H ∧ H D = some (.lst ((sel.take i).filterMap id))) ⟨same_upd nD, upd_same⟩ ?_ ?_
  · rintro i H hi' ⟨s, hD⟩
    refine ⟨hw _, ?_⟩
    have hi : i < sel.length := by rw [hlen]; exact hi'
    have ho : sel[i]? = some sel[i] := List.getElem?_eq_getElem hi
    have hl : ((sel.take i).filterMap id).length < sizeLine := Nat.lt_of_le_of_lt (fm_len sel i) (by omega)
    refine hs i sel[i] H hi' ho s (fun o H4 => match o with
      | some y => ∃ acc, H4 D = some (.lst acc) ∧ acc.length < sizeLine ∧ (Same H1 (upd H4 D (.lst (acc ++ [y]))) ∧ (upd H4 D (.lst (acc ++ [y]))) D = some (.lst ((sel.take (i + 1)).filterMap id)))
      | none => Same H1 H4 ∧ H4 D = some (.lst ((sel.take (i + 1)).filterMap id))) fun H4 s4 => ?_
    generalize sel[i] = o at ho ⊢
    cases o with
    | some y =>
      refine ⟨_, s4 _ _ hD, hl, same_over nD (s.trans s4), ?_⟩
      rw [upd_same, take_fm ho]
      rfl
    | none =>
      refine ⟨s.trans s4, ?_⟩
      rw [take_fm ho, s4 _ _ hD]
      simp
  · rintro H ⟨s, hD⟩
    refine hd H s ?_
    rw [hD, ← hlen, List.take_length]
theorem fm_some {α : Type} (ys : List α) : (ys.map some).filterMap id = ys := by
  rw [List.filterMap_map]
  show List.filterMap (fun y => some y) ys = ys
  exact List.filterMap_some
/-- no test: ys tells what comes of each item -/
theorem lc_mapL {K : PySem.W.Frag} {a : Addr} {xs : List V} {j : Nat} {te : TE} {vs : List Nat} {σ : L2.St} {H1 : Hp} {D : Addr} {Qd : Hp → Prop} (ys : List V) (nD : H1 D = none) (hS : SqL K H1 a xs) (hlen : ys.length = xs.length) (hz : xs.length < sizeLine)
    (hw : ∀ x, wipe ((wipe σ vs).set j (some x)) vs = wipe σ vs)
    (hs : ∀ (i : Nat) (x y : V) (H' : Hp), xs[i]? = some x → ys[i]? = some y → Same H1 H' → ∀ Qt : V → Hp → Prop, (∀ H'', Same H' H'' → Qt y H'') → te ((wipe σ vs).set j (some x)) H' Qt)
    (hd : ∀ H', Same H1 H' → H' D = some (.lst ys) → Qd H') :
    ∃ W : Nat → Nat → Hp → Prop, (∃ m, W 0 m (upd H1 D (.lst []))) ∧ ∀ i m H, W i m H →
      ((Itl K a).stop i H ∧ Qd H) ∨ ((Itl K a).go i H ∧ ∃ Nx : Hp → Prop, (∀ H', Nx H' → ∃ m', m' < m ∧ W (i + 1) m' H') ∧ ∀ x H', (Itl K a).yld i H x H' → gName j x (wipe σ vs) H' fun σ2 H2 => wipe σ2 vs = wipe σ vs ∧ tYes σ2 H2 fun b H3 =>
        if b = true then te σ2 H3 fun y H4 => ∃ acc, H4 D = some (.lst acc) ∧ acc.length < sizeLine ∧ Nx (upd H4 D (.lst (acc ++ [y]))) else Nx H3) := by
  refine lc_selL (K := K) (a := a) (xs := xs) (tt := tYes) (ys.map some) nD hS (by rw [List.length_map]; exact hlen) hz hw ?_ ?_
  · intro i x o H' hx ho s Qt qt
    rw [List.getElem?_map] at ho
    obtain ⟨y, hy, rfl⟩ := Option.map_eq_some_iff.mp ho
    show if true = true then te ((wipe σ vs).set j (some x)) H' (fun y H4 => Qt (some y) H4) else Qt none H'
    exact iteT (hs i x y H' hx hy s (fun y H4 => Qt (some y) H4) qt)
  · intro H' s hD
    rw [fm_some] at hD
    exact hd H' s hD
theorem lc_mapR {lo : Int} {n : Nat} {j : Nat} {te : TE} {vs : List Nat} {σ : L2.St} {H1 : Hp} {D : Addr} {Qd : Hp → Prop} (ys : List V) (nD : H1 D = none) (hlen : ys.length = n) (hz : n < sizeLine)
    (hw : ∀ x, wipe ((wipe σ vs).set j (some x)) vs = wipe σ vs)
    (hs : ∀ (i : Nat) (y : V) (H' : Hp), i < n → ys[i]? = some y → Same H1 H' → ∀ Qt : V → Hp → Prop, (∀ H'', Same H' H'' → Qt y H'') → te ((wipe σ vs).set j (some (.int (lo + (i : Int))))) H' Qt)
    (hd : ∀ H', Same H1 H' → H' D = some (.lst ys) → Qd H') :
    ∃ W : Nat → Nat → Hp → Prop, (∃ m, W 0 m (upd H1 D (.lst []))) ∧ ∀ i m H, W i m H →
      ((Itr lo n).stop i H ∧ Qd H) ∨ ((Itr lo n).go i H ∧ ∃ Nx : Hp → Prop, (∀ H', Nx H' → ∃ m', m' < m ∧ W (i + 1) m' H') ∧ ∀ x H', (Itr lo n).yld i H x H' → gName j x (wipe σ vs) H' fun σ2 H2 => wipe σ2 vs = wipe σ vs ∧ tYes σ2 H2 fun b H3 =>
        if b = true then te σ2 H3 fun y H4 => ∃ acc, H4 D = some (.lst acc) ∧ acc.length < sizeLine ∧ Nx (upd H4 D (.lst (acc ++ [y]))) else Nx H3) := by
  refine lc_selR (lo := lo) (n := n) (tt := tYes) (ys.map some) nD (by rw [List.length_map]; exact hlen) hz hw ?_ ?_
  · intro i o H' hi ho s Qt qt
    rw [List.getElem?_map] at ho
    obtain ⟨y, hy, rfl⟩ := Option.map_eq_some_iff.mp ho
    show if true = true then te ((wipe σ vs).set j (some (.int (lo + (i : Int))))) H' (fun y H4 => Qt (some y) H4) else Qt none H'
    exact iteT (hs i y H' hi hy s (fun y H4 => Qt (some y) H4) qt)
  · intro H' s hD
    rw [fm_some] at hD
    exact hd H' s hD
/-- an item of a list of whole numbers -/
theorem int_at {ns : List Int} {i : Nat} {x : V} (h : (ns.map V.int)[i]? = some x) : ∃ n, ns[i]? = some n ∧ x = .int n := by
  rw [List.getElem?_map] at h
  obtain ⟨n, hn, e⟩ := Option.map_eq_some_iff.mp h
  exact ⟨n, hn, e.symm⟩
/-! ### rules with the written part named (within a comprehension Lean doesn't find it) -/
section
variable {X : Cx}
theorem k_len (K : PySem.W.Frag) (h : X.K = K) : CallR X (.builtin "len") (fun xs H Q => ∃ p ys, xs = [.ref p] ∧ (SqL K H p ys ∨ SqT K H p ys) ∧ Q (.int ys.length) H) := by subst h; exact call_len_seq
theorem k_sum (K : PySem.W.Frag) (h : X.K = K) (hc : X.calm = true) : CallR X (.builtin "sum") (rSum K) := by subst h; exact cr_sum hc
theorem k_max (K : PySem.W.Frag) (h : X.K = K) (hc : X.calm = true) : CallR X (.builtin "max") (rMax K) := by subst h; exact cr_max hc
theorem k_min (K : PySem.W.Frag) (h : X.K = K) (hc : X.calm = true) : CallR X (.builtin "min") (rMin K) := by subst h; exact cr_min hc
theorem k_isi (K : PySem.W.Frag) (h : X.K = K) : CallR X (.builtin "isinstance") (rIsi K) := by subst h; exact call_isi
theorem k_listOf (K : PySem.W.Frag) (h : X.K = K) : CallR X (.type "list") (fun xs H Q => ∃ p ys, xs = [.ref p] ∧ (SqL K H p ys ∨ SqT K H p ys) ∧ ∀ l, H l = none → Q (.ref l) (upd H l (.lst ys))) := by subst h; exact call_list_of
theorem k_tupleOf (K : PySem.W.Frag) (h : X.K = K) : CallR X (.type "tuple") (fun xs H Q => ∃ p ys, xs = [.ref p] ∧ ((SqL K H p ys ∧ ∀ l, H l = none → Q (.ref l) (upd H l (.tup ys))) ∨ (SqT K H p ys ∧ Q (.ref p) H))) := by subst h; exact call_tuple_of
theorem k_ixL (K : PySem.W.Frag) (h : X.K = K) : IxR X (rIxL K) := by subst h; exact ix_list
theorem k_ixT (K : PySem.W.Frag) (h : X.K = K) : IxR X (rIxT K) := by subst h; exact ix_tup
theorem k_slL (K : PySem.W.Frag) (h : X.K = K) : SlR X (rSlL K) := by subst h; exact sl_list
theorem k_slT (K : PySem.W.Frag) (h : X.K = K) : SlR X (rSlT K) := by subst h; exact sl_tup
theorem k_eqD (K : PySem.W.Frag) (h : X.K = K) (hu : X.A.units + 64 < cLine) : OpR X (compareOp .Eq) (rEqD K) := by subst h; exact op_eqD hu
theorem k_neD (K : PySem.W.Frag) (h : X.K = K) (hu : X.A.units + 64 < cLine) : OpR X (compareOp .NotEq) (rNeD K) := by subst h; exact op_neD hu
theorem k_in (K : PySem.W.Frag) (h : X.K = K) : OpR X (compareOp .In) (rIn K false) := by subst h; exact op_in_seq
theorem k_notIn (K : PySem.W.Frag) (h : X.K = K) : OpR X (compareOp .NotIn) (rIn K true) := by subst h; exact op_notIn_seq
theorem k_piL (K : PySem.W.Frag) (h : X.K = K) {tg l : Expr} {tl : TE} (hl : PE X l tl) : PI X tg l (iList K tl) := by subst h; exact pi_list hl
theorem k_piT (K : PySem.W.Frag) (h : X.K = K) {tg l : Expr} {tl : TE} (hl : PE X l tl) : PI X tg l (iTup K tl) := by subst h; exact pi_tup hl
theorem k_piE (K : PySem.W.Frag) (h : X.K = K) {e : Expr} {ta : TA} {p pos tpos : Pos} {elts : List Expr} {kk : Nat} (hg : Gl X "enumerate") (hm : X.mg "enumerate" = none) (ha : PA X [e] ta) (hs : starEach [e] X.env = [(false, eval e X.env)] := by rfl) : PI X (.Tuple elts kk tpos) (.Call (.Name "enumerate" p) [e] [] pos) (iEnum K ta) := by subst h; exact pi_enum hg hm ha hs
theorem k_pgT (K : PySem.W.Frag) (h : X.K = K) {es : List Expr} {k : Nat} {t : TGs} {n : Nat} {pos : Pos} (hc : X.calm = true) (hp : PGs X es t) (hn : (assignEach es X.env).length = n := by rfl) (hst : (assignEach es X.env).findIdx? (·.1) = none := by rfl) : PG X (.Tuple es k pos) (gTup K n t) := by subst h; exact pg_tup hc hp hn hst
theorem k_pgL (K : PySem.W.Frag) (h : X.K = K) {es : List Expr} {k : Nat} {t : TGs} {n : Nat} {pos : Pos} (hc : X.calm = true) (hp : PGs X es t) (hn : (assignEach es X.env).length = n := by rfl) (hst : (assignEach es X.env).findIdx? (·.1) = none := by rfl) : PG X (.Tuple es k pos) (gUnl K n t) := by subst h; exact pg_unl hc hp hn hst
theorem k_fld (K : PySem.W.Frag) (h : X.K = K) {e : Expr} {f : Str} {pos : Pos} {ta : TE} (he : PE X e ta) (hb : attributeBase e f X.env (eval e X.env) = eval e X.env) : PE X (.Attribute e f pos) (tFld K ta f) := by subst h; exact pe_fld he hb
theorem k_index (K : PySem.W.Frag) (h : X.K = K) : MtR X "list.index" (rIndex K) := by subst h; exact mt_index
end
/-! ### small things -/
theorem fresh {H : Hp} {p : Addr} (o : HO) (np : H p = none) : ∃ H', upd H p o = H' ∧ Same H H' ∧ H' p = some o := ⟨_, rfl, same_upd np, upd_same⟩
theorem cut_take (xs : List V) (k : Nat) : cutV xs none (some (k : Int)) = xs.take k := by
  unfold cutV
  rw [HT.sIx_nat, HT.sIx_none, List.drop_zero, Nat.sub_zero]
  rcases Nat.le_total k xs.length with h | h
  · rw [Nat.min_eq_left h]
  · rw [Nat.min_eq_right h, List.take_of_length_le h, List.take_length]
theorem cut_drop (xs : List V) (k : Nat) : cutV xs (some (k : Int)) none = xs.drop k := by
  unfold cutV
  rw [HT.sIx_nat, HT.sIx_none]
  rcases Nat.le_total k xs.length with h | h
  · rw [Nat.min_eq_left h, List.take_of_length_le (by rw [List.length_drop]; exact Nat.le_refl _)]
  · rw [Nat.min_eq_right h, List.drop_length, List.drop_of_length_le h, List.take_nil]
theorem rep_ints (k : Nat) (ks : List Int) : (List.replicate k (ks.map V.int)).flatten = ((List.replicate k ks).flatten).map V.int := by
  rw [List.map_flatten, List.map_replicate]
theorem rep_len {α : Type} (k : Nat) (ks : List α) : ((List.replicate k ks).flatten).length = k * ks.length := by
  induction k with
  | zero => simp
  | succ k ih => rw [List.replicate_succ, List.flatten_cons, List.length_append, ih, Nat.succ_mul]; omega
theorem rep_mem {α : Type} {k : Nat} {ks : List α} {x : α} (h : x ∈ (List.replicate k ks).flatten) : x ∈ ks := by
  obtain ⟨l, hl, hx⟩ := List.mem_flatten.mp h
  rw [(List.mem_replicate.mp hl).2] at hx
  exact hx
/-! ### comprehensions that make new things: R tells what is known of the i-th; D is no part of it -/
def Off (D : Addr) (H H' : Hp) : Prop := ∀ b o, b ≠ D → H b = some o → H' b = some o
def RelPv (R : Nat → V → Hp → Prop) (H1 : Hp) (D : Addr) (i : Nat) (H : Hp) : Prop := ∃ ys : List V, Same H1 H ∧ H D = some (.lst ys) ∧ ys.length = i ∧ ∀ (k : Nat) (y : V), ys[k]? = some y → R k y H
theorem lc_relR {lo : Int} {n : Nat} {j : Nat} {te : TE} {vs : List Nat} {σ : L2.St} {H1 : Hp} {D : Addr} {Qd : Hp → Prop} (R : Nat → V → Hp → Prop) (nD : H1 D = none) (hz : n < sizeLine)
    (mono : ∀ i y H H', Off D H H' → R i y H → R i y H')
    (hw : ∀ x, wipe ((wipe σ vs).set j (some x)) vs = wipe σ vs)
    (hs : ∀ (i : Nat) (H' : Hp) (xs : List V), i < n → Same H1 H' → H' D = some (.lst xs) → ∀ Qt : V → Hp → Prop, (∀ y H'', Same H' H'' → R i y H'' → Qt y H'') → te ((wipe σ vs).set j (some (.int (lo + (i : Int))))) H' Qt)
    (hd : ∀ H' ys, Same H1 H' → H' D = some (.lst ys) → ys.length = n → (∀ (i : Nat) (y : V), ys[i]? = some y → R i y H') → Qd H') :
    ∃ W : Nat → Nat → Hp → Prop, (∃ m, W 0 m (upd H1 D (.lst []))) ∧ ∀ i m H, W i m H →
      ((Itr lo n).stop i H ∧ Qd H) ∨ ((Itr lo n).go i H ∧ ∃ Nx : Hp → Prop, (∀ H', Nx H' → ∃ m', m' < m ∧ W (i + 1) m' H') ∧ ∀ x H', (Itr lo n).yld i H x H' → gName j x (wipe σ vs) H' fun σ2 H2 => wipe σ2 vs = wipe σ vs ∧ tYes σ2 H2 fun b H3 =>
        if b = true then te σ2 H3 fun y H4 => ∃ acc, H4 D = some (.lst acc) ∧ acc.length < sizeLine ∧ Nx (upd H4 D (.lst (acc ++ [y]))) else Nx H3) := by
  refine lc_range (lo := lo) (n := n) (RelPv R H1 D) ⟨[], same_upd nD, upd_same, rfl, fun k y h => by simp at h⟩ ?_ ?_
  · rintro i H hi ⟨ys, s, hD, hl, hR⟩
    refine ⟨hw _, ?_⟩
    show if true = true then te ((wipe σ vs).set j (some (.int (lo + (i : Int))))) H (fun y H4 => ∃ acc, H4 D = some (.lst acc) ∧ acc.length < sizeLine ∧ RelPv R H1 D (i + 1) (upd H4 D (.lst (acc ++ [y])))) else RelPv R H1 D (i + 1) H
    refine iteT (hs i H ys hi s hD _ fun y H4 s4 r4 => ?_)
    refine ⟨ys, s4 _ _ hD, by omega, ys ++ [y], same_over nD (s.trans s4), upd_same, by rw [List.length_append, hl]; rfl, fun k z hz => ?_⟩
    have off : Off D H4 (upd H4 D (.lst (ys ++ [y]))) := fun b o nb h => by rw [upd_ne nb]; exact h
    by_cases hk : k < ys.length
    · rw [List.getElem?_append_left hk] at hz
      exact mono k z H _ (fun b o nb h => off b o nb (s4 b o h)) (hR k z hz)
    · rw [List.getElem?_append_right (by omega)] at hz
      have hk2 : k - ys.length = 0 := by
        have h2 := (List.getElem?_eq_some_iff.mp hz).1
        rw [List.length_singleton] at h2
        omega
      rw [hk2] at hz
      cases hz
      have ek : k = i := by omega
      rw [ek]
      exact mono i y H4 _ off r4
  · rintro H ⟨ys, s, hD, hl, hR⟩
    exact hd H ys s hD hl hR
/-! ### ways that are told by whole numbers -/
theorem iteDT {p A B : Prop} [Decidable p] (hp : p) (h : A) : if decide p = true then A else B := by rw [decide_eq_true hp]; exact iteT h
theorem iteDF {p A B : Prop} [Decidable p] (hp : ¬ p) (h : B) : if decide p = true then A else B := by rw [decide_eq_false hp]; exact iteF h
theorem iteNT {p A B : Prop} [Decidable p] (hp : ¬ p) (h : A) : if (!decide p) = true then A else B := by rw [decide_eq_false hp]; exact iteT h
theorem iteNF {p A B : Prop} [Decidable p] (hp : p) (h : B) : if (!decide p) = true then A else B := by rw [decide_eq_true hp]; exact iteF h
theorem iteET {a b : Int} {A B : Prop} [Decidable (V.int a = V.int b)] (hp : a = b) (h : A) : if decide (V.int a = V.int b) = true then A else B := iteDT (congrArg V.int hp) h
theorem iteEF {a b : Int} {A B : Prop} [Decidable (V.int a = V.int b)] (hp : ¬ a = b) (h : B) : if decide (V.int a = V.int b) = true then A else B := iteDF (fun z => hp (V.int.inj z)) h
theorem iteENT {a b : Int} {A B : Prop} [Decidable (V.int a = V.int b)] (hp : ¬ a = b) (h : A) : if (!decide (V.int a = V.int b)) = true then A else B := iteNT (fun z => hp (V.int.inj z)) h
theorem iteENF {a b : Int} {A B : Prop} [Decidable (V.int a = V.int b)] (hp : a = b) (h : B) : if (!decide (V.int a = V.int b)) = true then A else B := iteNF (congrArg V.int hp) h
theorem iteNtt {A B : Prop} (h : B) : if (!true) = true then A else B := h
theorem iteNff {A B : Prop} (h : A) : if (!false) = true then A else B := h
/-- 1 or 0 of a comparison -/
theorem int_if {p : Prop} [Decidable p] : (if decide p = true then (1 : Int) else 0) = if p then 1 else 0 := by by_cases h : p <;> simp [h]
end Pre

namespace My
open PySem PySem.Spec PyProof.Rows L2
/-! ### own errors whose __init__ says super().__init__(value); self.value = value -/
namespace Sup
open PySem.W PySem.Calls
section
variable {prog : Program} {w : World} {A : Around} {E : Value → Shared → Prop} {h : Heap} {g : Array GenState} {d : Drawn} {t : Nat} {os : OsState}
variable {nm q : Str} {C N : Addr} {bs bm : List Value} {hdct : Bool} {sn : List Str} {sub : List Value} {ab : Bool} {col : Option Bool} {dd : Option Addr} {k0 k1 k2 k3 k5 : Option Value}
theorem call_bwV {u e t0 : Addr} {rest : List Value} {Q : Value → Shared → Prop}
    (hC : h.get? C = some (excClassObj nm q C N bs bm hdct sn sub ab col dd k0 k1 k2 k3 k5 "ValueError.__new__")) (he : h.get? e = some (HandSPX.excO C t0)) (hu : h.get? u = some (kxs_mw "ValueError.__init__" e)) (hrest : rest.length ≤ sizeLine)
    (hq : ∀ h' t1, (∀ b o, b ≠ e → h.get? b = some o → h'.get? b = some o) → h'.get? e = some (HandSPX.excO C t1) → Q .none ⟨h', g, d, t, os⟩) :
    wpAny (model prog w) A (call (.ref u) rest) Q E ⟨h, g, d, t, os⟩ := by
  refine wpAny_call (codeAny_of_tree ?_)
  show wpAny _ A.in1 (callAny (.ref u) ⟨rest, []⟩) _ _ _
  simp only [callAny]
  refine wpAny_bind (wpAny_load hu ?_)
  simp only [kxs_mw, show (Value.type "method-wrapper" == Value.type "method" || Value.type "method-wrapper" == Value.type "builtin_function_or_method" || Value.type "method-wrapper" == Value.type "method-wrapper") = true by decide, if_true]
  refine W.KFB.if_so (by decide) ?_
  refine wpAny_bind (ESX.check_bound F.excBase_ValueError hC he rfl ?_)
  refine wpAny_bind (wpAny_pure (wpAny_pure ?_))
  refine ⟨Code.quiet_builtin _ (by decide +kernel), codeAny_builtin F.excBase_ValueError.initEntry ?_⟩
  rw [Around.under_plainId F.excBase_ValueError.init.plain _]
  exact exc_init_tree (cls := .ref C) (t0 := t0) (dv := none) (c2 := .none) (c3 := .none) (b4 := .bool false) he hrest fun h' k e' _ => hq h' _ k e'
end
/-- the file of the program: what its code objects are asked for -/
class PF (P : Program) (file : Str) : Prop where
  file : ((P.main.file : Str) == file) = true
  top : (P.main.scope.names.lookup ("super" : Str)).isSome = false
/-- what the written part says of such a class C, named x, and its __init__ at fI -/
structure SupC (K : Frag) (file x : Str) (st : Stmt) (C fI : Addr) (fd : FuncData) : Prop where
  T : OexC K C
  ex : ∃ (oc : Value) (od : Option Addr) (dV kV doc pm : Value) (an : Option Addr) (c cc : Addr) (ct : Value) (osl : Array (Option Value)),
    fd = ksFn "__init__" (x ++ (".__init__" : Str)) (defArgs st) (defBody st) (defScope st) dV kV doc pm an (.ref c) ct cc ∧ K.lookup fI = some ⟨oc, od, .func fd, osl⟩ ∧ codeIn K (.ref c) (x ++ (".__init__" : Str)) = true ∧
    (∃ (ccl : Value) (cdd : Option Addr) (vs : Array Value) (ccs : Array (Option Value)) (tf : Tok), K.lookup c = some ⟨ccl, cdd, .fields vs, ccs⟩ ∧ vs[2]? = some (.str file tf)) ∧ (∃ (cl : Value) (cld : Option Addr) (csl : Array (Option Value)), K.lookup cc = some ⟨cl, cld, .cell (some (.ref C)), csl⟩)
  sup : ks_superIn K C C "__init__" = some (some (.builtin "ValueError.__init__"))
  subV : subIn K (.ref C) (.type "ValueError") = some true
  subC : mroIn K C (.ref C) = some true
  opq : nsIn K cStatics "thirdparty.any" = some none
  nov : findIn K (.ref C) "value" = some none
/-- the body's shape -/
def SupBody (st : Stmt) : Prop := ∃ p0 p1 p2 p3 p4 p5 p6 p7 p8 p9 : Pos,
  defBody st = [.Expr (.Call (.Attribute (.Call (.Name "super" p0) [] [] p1) "__init__" p2) [.Name "value" p3] [] p4) p5, .Assign [.Attribute (.Name "self" p6) "value" p7] (.Name "value" p8) p9] ∧
  ((defArgs st).posonlyargs ++ (defArgs st).args).head?.map (·.arg) = some ("self" : Str) ∧
  ∀ env : Env, ∃ pl : Sem Bool, eval (.Call (.Attribute (.Call (.Name "super" p0) [] [] p1) "__init__" p2) [.Name "value" p3] [] p4) env = (do
      let ov ← attributeBase (.Call (.Name "super" p0) [] [] p1) "__init__" env (eval (.Call (.Name "super" p0) [] [] p1) env)
      standAt p2.atName
      let (f, first) ← holding [ov] (getMethod ov "__init__" pl)
      callWith p4 f first (backTo p4 (starEach [.Name "value" p3] env)) [])
def sp_exc_init (C : Addr) : Sp := fun vs H Q _ => ∃ (a : Addr) (v : V), vs = [.ref a, v] ∧ H a = some (exo a C none) ∧ ∀ d, H d = none → d ≠ a → Q .non (upd (upd H d (exd d [("value", v)])) a (exo a C (some d)))
section
variable {P : Program} {w : World} {K : Frag} {mg : Str → Option Value} {base : Heap} {CX : CXT} {file x : Str} {st : Stmt} {C fI : Addr} {fd : FuncData}
theorem fn_sup [pf : PF P file] (S : NdefX.NScope ["self", "value", "__class__"] ["self", "value"] ["__class__"] (defScope st)) (hgs : (defScope st).names.lookup ("super" : Str) = some .globalImplicit) (hb0 : SupBody st) (F : SupC K file x st C fI fd) (nosup : mg ("super" : Str) = none) :
    FnOk P w K mg base CX 1 fI fd ["self", "value"] (sp_exc_init C) := by
  refine ⟨fun vs H Q E h => by obtain ⟨a, v, rfl, _⟩ := h; rfl, fun A outer s H args us vs Q E hr e0 hb rv hsp => ?_⟩
  obtain ⟨a, v, rfl, ha, q⟩ := hsp
  obtain ⟨oc, od, dV, kV, doc, pm, an, c, cc, ct, osl, rfl, lk, hcd, ⟨ccl, cdd, cvs, ccs, tf, lkc, hvs⟩, cl, cld, csl, lkcc⟩ := F.ex
  obtain ⟨p0, p1, p2, p3, p4, p5, p6, p7, p8, p9, hbody, hself, hev⟩ := hb0
  obtain ⟨pl, hpl⟩ := hev (NdefX.envF ⟨"__init__", x ++ (".__init__" : Str), defArgs st, defBody st, defScope st, [("__class__", cc)], c⟩ fI s.heap.objs.size)
  have hin : K.In s.heap := e0.mod.kin.keeps fun b o z => (e0.bs b o z).1
  have lim : s.heap.NoLimit := e0.mod.nolimit.keeps fun b o e => (e0.bs b o e).1
  let Fn : NdefX.NF := ⟨"__init__", x ++ (".__init__" : Str), defArgs st, defBody st, defScope st, [("__class__", cc)], c⟩
  refine codeAny_call_function hr.depth (hin _ _ lk) rfl S.co S.gen rfl (codeRec_of hin hcd) (hb _ _ _ _ ?_)
  refine wpAny_newFunctionEnv S.nocell (fun ⟨n, _⟩ hy => S.par n (List.of_mem_zip hy).1) (fun h₁ hns hsb => ⟨lim.fresh _ hsb, ?_⟩) S.kind
  show codeAny _ _ (.func (defBody st) (NdefX.envF Fn fI s.heap.objs.size)) _ _
  have kp : ∀ b o, s.heap.get? b = some o → h₁.get? b = some o := fun b o e => hsb.extBut b o (Nat.ne_of_lt (Heap.lt_size e)) (Heap.get?_push_of_some _ e)
  have hcc : ∀ y c', ([("__class__", cc)] : List (Str × Addr)).lookup y = some c' → y = ("__class__" : Str) ∧ c' = cc := fun y c' e => by
    by_cases h : y = ("__class__" : Str)
    · subst h
      cases e
      exact ⟨rfl, rfl⟩
    · rw [List.lookup_cons, show (y == ("__class__" : Str)) = false by simpa using h] at e
      cases e
  have cells : NdefX.CellsAt Fn.cl ["__class__"] [some (.ref C)] s.heap H := {
    len := rfl
    all := fun y c' e => by
      obtain ⟨_, rfl⟩ := hcc y c' e
      exact ⟨(e0.bs _ _ (e0.mod.kin _ _ lkcc)).2, _, _, hin _ _ lkcc, rfl⟩
    inj := fun y z c' e1 e2 => by rw [(hcc y c' e1).1, (hcc z c' e2).1]
    has := fun i y e => by
      cases i with
      | zero =>
        cases e
        refine ⟨cc, rfl, fun u hu => ?_⟩
        cases hu
        exact ⟨.ref C, rfl, _, hin _ _ lkcc, rfl⟩
      | succ i => simp at e }
  have I : Inv (NdefX.ncx CX P w K mg base ["self", "value", "__class__"] Fn fI A outer s H E) [] (NdefX.startF ["self", "value", "__class__"] [.ref a, v] [some (.ref C)]) H { s with heap := h₁, toks := s.toks + (["self", "value"].zip us).length } := NdefX.inv_startN S hr.hd e0 rfl rv cells hns kp
  obtain ⟨nm, q0, N, bs, bm, sn, sub, ab, col, dd, k0, k1, k2, k3, k5, hC, hbm⟩ := F.T.cls
  have hcl : clsIn K C = some { name := nm, bases := bs, mro := .ref C :: bm, ns := N, qualname := q0, hasDict := true, slotNames := sn, subclasses := sub, abstract := ab, collection := col, hasDel := false } := by unfold clsIn; rw [hC] <;> rfl
  refine ks_codeAny_funcAt ?_
  rw [hbody]
  obtain ⟨ar, hp, har⟩ : ∃ ar, ((defArgs st).posonlyargs ++ (defArgs st).args).head? = some ar ∧ ar.arg = ("self" : Str) := by
    cases e : ((defArgs st).posonlyargs ++ (defArgs st).args).head? with
    | none => rw [e] at hself; cases hself
    | some ar => rw [e] at hself; exact ⟨ar, rfl, Option.some.inj hself⟩
  have X1 : K.In h₁ := hin.keeps kp
  obtain ⟨ual, rfl⟩ : ∃ u1, us = [.ref a, u1] := by
    cases rv with
    | cons r1 r2 => cases r2 with
      | cons r3 r4 => cases r4; cases r1; exact ⟨_, rfl⟩
  refine ks_wpAt_execs_cons (ks_wpAt_Expr_any (ks_wpAt_MethodCall (pl := pl) ?_ hpl) I.quiet)
  refine ks_wpAt_super_base (env := NdefX.envF Fn fI s.heap.objs.size) hgs (S.frk _ (by simp)) (by decide) rfl (X1 _ _ lk) rfl hp rfl (X1 _ _ lkc) rfl hvs pf.file pf.top ?_
  obtain ⟨mb, hb1, hb2⟩ := I.mod.blt
  refine ks_loadName_global S.kind hgs (loadGlobal_builtin (env := NdefX.envF Fn fI s.heap.objs.size) (I.mod.glob.keeps I.bk) nosup (hb1.keeps I.bk) ((hb2 _ (by decide)).trans (show bootBuiltins "super" = some (.type "super") by decide +kernel)) ⟨rfl, ?_⟩)
  refine wpAny_loadName_free S.kind (S.frk _ (by simp)) rfl ⟨_, X1 _ _ lkcc, rfl⟩ ?_
  rw [har]
  refine wpAny_loadName_local S.kind (S.par _ (by simp)) hns rfl ?_
  obtain ⟨t1, he0⟩ := exo_at e0.hok ha
  have he1 := kp _ _ he0
  refine ks_wpAny_isType_cls (X1 _ _ hC) rfl ⟨rfl, ?_⟩
  refine ks_wpAny_call_super (X1 _ _ hC) rfl he1 rfl (fun c e => by cases e) (looks_mroIn X1 F.subC) (fun h2 hso k2 => ?_)
  have X2 : K.In h2 := X1.keeps k2
  have he2 := k2 _ _ he1
  have IA : InstAt h2 a (HandSPX.excO C t1) C none := ⟨he2, rfl, rfl, trivial⟩
  have hf := F.sup
  unfold ks_superIn at hf
  rw [hcl] at hf
  refine kxs_getMethod kxs_ValueError hso (looks_opaque X2 F.opq) (l₀ := .ref C :: bm) (fun A Q E s k q => wpAny_bind ((looks_clsIn X2 hcl) A _ E s k (wpAny_pure q))) rfl X2 hf (IA.type.andThen (looks_subIn X2 F.subV)) (ks_ne X2 IA hcl) (by decide) ?_
  have k3 : ∀ b o, h₁.get? b = some o → (h2.push (kxs_mw "ValueError.__init__" a)).get? b = some o := fun b o e => Heap.get?_push_of_some _ (k2 b o e)
  have I3 := I.kept (h' := h2.push (kxs_mw "ValueError.__init__" a)) (t' := s.toks + (["self", "value"].zip [Value.ref a, ual]).length + 1) k3
  refine kxs_callWith (i := "ValueError.__init__") (x := a) rfl ?_
  rw [show starEach [Expr.Name "value" p3] (NdefX.envF Fn fI s.heap.objs.size) = (false, eval (.Name "value" p3) (NdefX.envF Fn fI s.heap.objs.size)) :: starEach [] (NdefX.envF Fn fI s.heap.objs.size) from rfl]
  refine evalArgs_plain ?_
  refine spliced_cons ?_
  obtain ⟨m, hn, hl⟩ := I3.loc
  obtain ⟨u, ru, l⟩ := hl 1 "value" v rfl rfl (.inl (S.par _ (by simp)))
  have fin : wpAny (model P w) (A.deeper (NdefX.envF Fn fI s.heap.objs.size)) (eval (.Name "value" p3) (NdefX.envF Fn fI s.heap.objs.size)) (fun z s' => z = u ∧ s' = { s with heap := h2.push (kxs_mw "ValueError.__init__" a), toks := s.toks + (["self", "value"].zip [Value.ref a, ual]).length + 1 }) (fun e s' =>
      wpAny (model P w) (A.deeper (NdefX.envF Fn fI s.heap.objs.size)) (leaving (NdefX.envF Fn fI s.heap.objs.size) e)
        (fun x s'' => CR CX outer P w H s Q E (Except.error e) s'')
        (fun e' s'' => CR CX outer P w H s Q E (Except.error e') s'') s') { s with heap := h2.push (kxs_mw "ValueError.__init__" a), toks := s.toks + (["self", "value"].zip [Value.ref a, ual]).length + 1 } := by
    rcases l with ⟨hk, hm⟩ | ⟨hk, _⟩
    · exact wpAny_Name (wpAny_loadName_local S.kind hk hn hm ⟨rfl, rfl⟩) (by decide)
    · have hv : (defScope st).names.lookup ("value" : Str) = some .local := S.par _ (by simp)
      rcases hk with hk | hk <;> exact absurd (hv.symm.trans hk) (by intro z; cases z)
  refine wpAny_mono fin (fun z s' hz => ?_) fun _ _ z => z
  obtain ⟨rfl, rfl⟩ := hz
  refine spliced_nil ⟨Heap.get?_push_at rfl rfl, ?_⟩
  refine call_bwV (e := a) (t0 := t1) (X2.keeps (fun b o e => Heap.get?_push_of_some _ e) _ _ hC) (Heap.get?_push_of_some _ he2) (Heap.get?_push_at rfl rfl) (by show 1 ≤ sizeLine; decide) fun h' t2 k4 hx => ?_
  refine wpAt_of_wpAny ?_
  have J := I3.write (t' := s.toks + (["self", "value"].zip [Value.ref a, ual]).length + 1) (x := a) (e := a) (o := exo a C none) (by rw [ha]; exact True.intro) (.inl rfl) k4 ⟨_, hx⟩ (exo_ok hx)
  have eu : upd H a (exo a C none) = H := by
    funext b
    by_cases hb : b = a
    · rw [hb, upd_same, ha]
    · rw [upd_ne hb]
  rw [eu] at J
  have ht : PSs (NdefX.ncx CX P w K mg base ["self", "value", "__class__"] Fn fI A outer s H E) [.Assign [.Attribute (.Name "self" p6) "value" p7] (.Name "value" p8) p9] (tOst K "value" (tVar 0) (tVar 1)) :=
    pss_one (ps_ost (pe_var (i := 0) rfl (.inl (S.par _ (by simp)))) (pe_var (i := 1) rfl (.inl (S.par _ (by simp)))))
  refine wpAny_mono (ht.run [] _ _ H { nx := fun _ H' => Q .non H', rt := Q } J ⟨v, rfl, .ref a, rfl, a, C, rfl, F.T, F.nov, .inl ⟨ha, fun dx n ne => q dx n ne⟩⟩) (fun fl s' hs => ?_) fun e s' hs => hs
  have fin : ∀ {σ' : L2.St} {H' : Hp} {v : V} {u : Value}, Inv (NdefX.ncx CX P w K mg base ["self", "value", "__class__"] Fn fI A outer s H E) [] σ' H' s' → L2.RelV v u → Q v H' → CE outer P w H s Q u s' :=
    fun {σ' H' v u} J rv q => ⟨v, H', J.os, J.bare, J.base, J.hok, rv, q⟩
  cases fl with
  | ret u =>
    obtain ⟨v, σ', H', J, rv, q⟩ := hs
    exact fin J rv q
  | next =>
    obtain ⟨σ', H', J, q⟩ := hs
    exact fin (v := V.non) (u := Value.none) J rfl q
  | brk =>
    obtain ⟨_, _, _, q⟩ := hs
    exact False.elim q
  | cont =>
    obtain ⟨_, _, _, q⟩ := hs
    exact False.elim q
end
end Sup
end My

namespace My
open PySem PySem.Spec PyProof.Rows L2
/-! ### such an error raised; its value in an except suite; several clauses with a name -/
/-- what is left to be shown behind the making of such an error with the value v -/
theorem mk_sup {C : Addr} {v : V} {H1 : Hp} {Q : XK} (q : ∀ d, H1 d = none → Q (.ref C) (some d) (upd H1 d (.xd [("value", v)]))) : [v].length ≤ 1000 ∧ ∀ a, H1 a = none → Sup.sp_exc_init C (.ref a :: ([v] ++ [])) (upd H1 a (exo a C none))
    (fun w H2 => w = .non ∧ ∃ (d : Addr) (fs : List (Str × V)), H2 a = some (exo a C (some d)) ∧ H2 d = some (exd d fs) ∧ H1 d = none ∧ Q (.ref C) (some d) (upd (del H2 a) d (.xd fs))) (fun _ _ _ => False) := by
  refine ⟨by show 1 ≤ 1000; decide, fun a na => ⟨a, v, rfl, upd_same, fun d nd da => ⟨rfl, d, [("value", v)], upd_same, ?_, ?_, ?_⟩⟩⟩
  · rw [upd_ne da, upd_same]
  · rw [upd_ne da] at nd
    exact nd
  · have hn : H1 d = none := by rw [upd_ne da] at nd; exact nd
    have e : upd (del (upd (upd (upd H1 a (exo a C none)) d (exd d [("value", v)])) a (exo a C (some d))) a) d (.xd [("value", v)]) = upd H1 d (.xd [("value", v)]) := by
      funext b
      by_cases hb : b = d
      · rw [hb, upd_same, upd_same]
      · rw [upd_ne hb, upd_ne hb]
        by_cases hba : b = a
        · rw [hba, del_same, na]
        · rw [del_ne hba, upd_ne hba, upd_ne hb, upd_ne hba]
    rw [e]
    exact q d hn
/-- the reading of err.f, the class of err told there -/
def tXfA (K : PySem.W.Frag) (a : Addr) (cls : Value) (d : Option Addr) (f : Str) (te : TE) : TE := fun σ H Q => te σ H fun x H1 => x = .ref a ∧ ∃ C : Addr, cls = .ref C ∧ XfC K C ∧ PySem.W.findIn K (.ref C) f = some none ∧ ∃ (dd : Addr) (fs : List (Str × V)) (v : V), d = some dd ∧ H1 dd = some (.xd fs) ∧ fs.lookup f = some v ∧ Q v H1
theorem pe_xfA {X : Cx} {a : Addr} {oe : Obj} {cls : Value} {d : Option Addr} {pn : List (Addr × Obj)} {e : Expr} {te : TE} {pos : Pos} {n : Str}
    (hz : Zc cls d oe) (hf : ∃ vs, oe.data = .fields vs) (he : PE (X.suite a ((a, oe) :: pn)) e te) (hb : attributeBase e n X.env (eval e X.env) = eval e X.env := by rfl) :
    PE (X.suite a ((a, oe) :: pn)) (.Attribute e n pos) (tXfA X.K a cls d n te) := by
  refine ⟨fun pins s σ H Q I h => ?_⟩
  refine attr_of hb (thn (he.run pins s σ H _ I h) fun u s1 hh => ?_)
  obtain ⟨x, H1, I1, rx, ex, C, ec, T, hno, dd, fs, v, ed, ea, l, q⟩ := hh
  subst ex
  obtain rfl : u = Value.ref a := rx
  subst ec
  subst ed
  obtain ⟨ha, _⟩ := I1.pin (a, oe) (List.mem_append_left _ List.mem_cons_self)
  obtain ⟨vs, hd⟩ := hf
  have hx : ObjOk X.prog X.w H1 s1.heap dd (.xd fs) := I1.hok dd _ ea
  obtain ⟨mA, hns, hr⟩ := hx
  obtain ⟨od, ho, hl⟩ := lookIn_ns hns
  obtain ⟨u, hu, ru⟩ := RelO.some_of (v := v) (o := mA n) (by rw [← l]; exact hr n)
  have J : PySem.W.InstAt s1.heap a oe C (some od) := ⟨ha, hz.1, by unfold PySem.W.notCls; rw [hd] <;> rfl, by rw [hz.2]; exact ho⟩
  exact HandSPX.exc_get I1.kIn J T.ga T.gg T.exC (PySem.W.findObj_own T.hdC hno rfl (by rw [hl, hu])) (handed_of ru) ⟨v, H1, I1.tok _, ru, q⟩
/-- what the clauses 'except x as n' wish of an exception of the body, one after the other; slot i is n's -/
def wManyAs (K : PySem.W.Frag) (i : Nat) (Wout : WX) (D : Ends) : List (Value × (Addr → Value → Option Addr → TS)) → WX
  | [] => Wout
  | (c, ts) :: r => fun cls d σ H => ∃ b, PySem.W.exmOne K cls c = some b ∧ (b = true → ∀ a, H a = none → ts a cls d { nx := fun σ' H' => D.nx (σ'.set i none) H', rt := D.rt, bk := fun σ' H' => D.bk (σ'.set i none) H', ct := fun σ' H' => D.ct (σ'.set i none) H' } (σ.set i (some (.ref a))) H) ∧
    (b = false → wManyAs K i Wout D r cls d σ H)
inductive HdsAs (X : Cx) (n : Str) : List ExceptHandler → List (Value × (Addr → Value → Option Addr → TS)) → Prop
  | nil : HdsAs X n [] []
  | cons {x : Str} {c : Value} {ts : Addr → Value → Option Addr → TS} {b₀ : Stmt} {suite : List Stmt} {np pos' : Pos} {hds : List ExceptHandler} {l : List (Value × (Addr → Value → Option Addr → TS))} (hc : Names X x c)
      (hsu : ∀ (a : Addr) (oe : Obj) (cls : Value) (d : Option Addr) (pn : List (Addr × Obj)), Zc cls d oe → (∃ vs, oe.data = .fields vs) → PSs (X.suite a ((a, oe) :: pn)) (b₀ :: suite) (ts a cls d)) (r : HdsAs X n hds l) :
      HdsAs X n (.ExceptHandler (some (.Name x np)) (some n) (b₀ :: suite) pos' :: hds) ((c, ts) :: l)
section
variable {X : Cx} {n : Str} {i : Nat} {body : List Stmt} {h₀ : ExceptHandler} {hds : List ExceptHandler} {l : List (Value × (Addr → Value → Option Addr → TS))} {pos : Pos} {tb : WX → TS} {Wout : WX}
theorem ps_try_manyAs (hs : X.stack = X.env :: X.outer) (hf : X.env.frame = some X.env.locals) (hN : X.N.Nodup) (hi : X.N[i]? = some n) (hln : X.env.kindOf n = some .local) (tk : Takes X Wout)
    (hb : ∀ (W : WX) (pn : List (Addr × Obj)) (xe : Value → Shared → Prop), Takes (X.tr pn xe) W → PassesOwn (model X.prog X.w) X.A X.env xe → PSs (X.tr pn xe) body (tb W))
    (hh : HdsAs X n (h₀ :: hds) l) : PS X (.Try body (h₀ :: hds) [] [] pos) (fun D σ H => tb (wManyAs X.K i Wout D l) D σ H) := by
  refine ⟨fun pins s σ H D I h => ?_⟩
  have ok := I.ok
  have hfr : X.A.frames = some (X.env :: X.outer) := by rw [ok.frames, hs]
  have hloc : Loc X.env.scope n := .inl hln
  refine wpAny_Try_except ?_
  refine wpAny_mono ((hb (wManyAs X.K i Wout D l) (X.pn ++ pins) (fun e s₁ => wpAny (model X.prog X.w) X.A (noteFrame e X.env) (fun _ s₂ => wpAny (model X.prog X.w) X.A (setFlight e none) (fun _ s₃ =>
    wpAny (model X.prog X.w) X.A (handleBy e X.env (h₀ :: hds)) (SP X pins D) X.xe s₃) X.xe s₂) X.xe s₁) (fun u s' xx => ?_) PassesOwn.looking).run [] s σ H D (I.toTry _) h) (fun f s1 hsp => ?_) (fun e s1 he => he)
  · -- the catch
    obtain ⟨a, B, sI, pins', σ', H', cls, d, rfl, J', nb, up, sky, na, os, ag, w⟩ := xx
    have J : Inv X pins σ' H' sI := J'.ofTry ok
    have sky' : Sky B (X.env :: X.outer) a (Zc cls d) X.env.locals s'.heap := by rw [← hs]; exact sky
    show wpAny (model X.prog X.w) X.A (noteFrame (.ref a) X.env) _ _ _
    refine Sky.land Zc.steady hfr hf sky' fun h3 fl3 up3 => ?_
    have J3 : Inv X pins σ' H' { s' with heap := h3 } := J.landed nb fl3.1 (up.trans up3) os ag
    obtain ⟨oe3, vs3, he3, hz3, hd3⟩ := fl3.there
    have notFr : ∀ {h : Heap} {o : Obj} {vs : Array Value}, h.FunFrames B (X.env :: X.outer) → h.get? a = some o → o.data = .fields vs → a ∉ frs (X.env :: X.outer) := fun {h o vs} ff e dd hm => by
      obtain ⟨_, o', e', hnf⟩ := ff.mem hm
      rw [e] at e'; cases e'
      exact hnf _ dd
    have nfr := notFr fl3.2.2.1 he3 hd3
    have nL : a ≠ X.env.locals := fun z => nfr (List.mem_filterMap.mpr ⟨X.env, List.mem_cons_self, by rw [hf, z]⟩)
    have nF : a ∉ X.fs := fun hm => by
      obtain ⟨e, he, q⟩ := List.mem_filterMap.mp hm
      exact nfr (List.mem_filterMap.mpr ⟨e, List.mem_cons_of_mem _ he, q⟩)
    have S3 := J3.suite he3 hd3 na nL nF
    have go : ∀ {hds' : List ExceptHandler} {l' : List (Value × (Addr → Value → Option Addr → TS))}, HdsAs X n hds' l' → wManyAs X.K i Wout D l' cls d σ' H' →
        wpAny (model X.prog X.w) X.A (handleBy (.ref a) X.env hds') (SP X pins D) X.xe { s' with heap := h3 } := by
      intro hds' l' hk
      induction hk with
      | nil =>
        intro w
        refine wpAny_handleBy_nil ?_
        obtain ⟨k1, k2, k3, oe, vs, T, oT, ts', he, hz, hd, h1, hr⟩ := id fl3
        unfold PySem.passOn
        refine wpAny_bind (wpAny_field he hd h1 ?_)
        rw [if_neg (show ¬ ((Value.ref T == Value.none) = true) from by simp)]
        have fin : wpAny (model X.prog X.w) X.A (setFlight (.ref a) X.env.frame) (fun _ s4 => wpAny (model X.prog X.w) X.A (throw (.ref a) : Sem Flow) (SP X pins D) X.xe s4) X.xe { s' with heap := h3 } := by
          rw [hf]
          refine HandSPX.setFlight_upZ fl3 fun h4 hh4 up4 => wpAny_throw (tk _ _ ?_)
          exact ⟨a, B, sI, pins, σ', H', cls, d, rfl, J, nb, (up.trans up3).trans up4, .inr (.inr (by rw [hs]; exact hh4)), na, os, ag, w⟩
        first
          | exact wpAny_bind (wpAny_pure (wpAny_bind fin))
          | exact wpAny_bind fin
      | @cons x c ts b₀ suite np pos' hds2 l2 hc hsu r ih =>
        intro w
        obtain ⟨b, hb1, hyes, hno⟩ := w
        refine wpAny_handleBy_cons (codeAny_handlers_test ?_) (by intro q; cases q)
        have LT : PySem.W.Looks (model X.prog X.w) h3 (typeOf (.ref a)) cls := fun A Q E s k q => wpAny_typeOf_ref (k _ _ he3) (by rw [hz3.1]; exact q)
        have LM := PySem.W.exm_one (M := model X.prog X.w) (J3.kIn) LT hb1
        have test : ∀ {Q : Value → Shared → Prop} {E : Value → Shared → Prop}, Q c { s' with heap := h3 } → wpAny (model X.prog X.w) (X.A.mark (some (.ref a))) (eval (.Name x np) X.env) Q E { s' with heap := h3 } := fun {Q E} q => by
          obtain ⟨hg, hdbg, hm | ⟨hm, hv, hnn⟩⟩ := hc
          · exact ld_glob (X := X.suite a ((a, oe3) :: (X.pn ++ pins))) S3 hg hm q hdbg
          · exact ld_blt (X := X.suite a ((a, oe3) :: (X.pn ++ pins))) S3 hg hm hv q hnn hdbg
        refine test (LM.here ?_)
        cases b with
        | true =>
          refine codeAny_handlers_suite_as ?_
          refine HandSPX.lands_againZ fl3 fun h4 fl4 up4 => ?_
          have J4 : Inv X pins σ' H' { s' with heap := h4 } := J.landed nb fl4.1 ((up.trans up3).trans up4) os ag
          obtain ⟨oe4, vs4, he4, hz4, hd4⟩ := fl4.there
          have S4 := J4.suite he4 hd4 na nL nF
          refine store_ok (X := X.suite a ((a, oe4) :: (X.pn ++ pins))) (v := .ref a) S4 hN hi hloc rfl (fun s5 S5 => ?_) (.inr hln)
          refine wpAny_mono ((hsu a oe4 cls d (X.pn ++ pins) hz4 ⟨_, hd4⟩).run [] s5 _ H' _ S5 (hyes rfl a na)) (fun f s6 hsp => ?_) (fun _ _ z => False.elim z)
          have end_ : ∀ {σ6 : L2.St} {H6 : Hp} {Q : Shared → Prop}, Inv (X.suite a ((a, oe4) :: (X.pn ++ pins))) [] σ6 H6 s6 → (∀ s7, Inv X pins (σ6.set i none) H6 s7 → Q s7) →
              wpAny (model X.prog X.w) X.A (do bindName X.env n .none; unbindBehindTheSuite X.env n pos') (fun _ s7 => Q s7) X.xe s6 := fun {σ6 H6 Q} S6 hq => gone_ok (S6.unsuite ok) hN hi hln hq
          cases f with
          | next =>
            obtain ⟨σ6, H6, S6, q6⟩ := hsp
            exact end_ S6 fun s7 J7 => ⟨_, _, J7, q6⟩
          | brk =>
            obtain ⟨σ6, H6, S6, q6⟩ := hsp
            exact end_ S6 fun s7 J7 => ⟨_, _, J7, q6⟩
          | cont =>
            obtain ⟨σ6, H6, S6, q6⟩ := hsp
            exact end_ S6 fun s7 J7 => ⟨_, _, J7, q6⟩
          | ret u =>
            obtain ⟨v6, σ6, H6, S6, r6, q6⟩ := hsp
            exact end_ S6 fun s7 J7 => ⟨_, _, _, J7, r6, q6⟩
        | false =>
          show wpAny _ X.A (handleBy (.ref a) X.env hds2) _ _ _
          exact ih (hno rfl)
    exact go hh w
  · cases f with
    | next =>
      obtain ⟨σ', H', J', q⟩ := hsp
      exact wpAny_execs_nil ⟨σ', H', J'.ofTry ok, q⟩
    | brk =>
      obtain ⟨σ', H', J', q⟩ := hsp
      exact ⟨σ', H', J'.ofTry ok, q⟩
    | cont =>
      obtain ⟨σ', H', J', q⟩ := hsp
      exact ⟨σ', H', J'.ofTry ok, q⟩
    | ret u =>
      obtain ⟨v, σ', H', J', r, q⟩ := hsp
      exact ⟨v, σ', H', J'.ofTry ok, r, q⟩
end
end My

namespace My
open PySem PySem.Spec PyProof.Rows L2
/-! ### own errors as they stand behind the top: what is asked of the written part -/
abbrev ErW : Type := Option (Str × Str × Arguments × FuncBody × Scope × Addr × Addr)
def erI (K : PySem.W.Frag) (x : Str) : Addr := match PySem.W.findIn K (.ref (He.ga K x)) "__init__" with
  | some (some (.ref a)) => a
  | _ => 0
def erW (K : PySem.W.Frag) (x : Str) : ErW := match K.lookup (erI K x) with
  | some ⟨_, _, .func fd, _⟩ => some (fd.name, fd.qualname, fd.params, fd.body, fd.scope, fd.globals, fd.builtins)
  | _ => none
/-- an own error class over ValueError -/
def oexB (K : PySem.W.Frag) (C : Addr) : Bool := match K.lookup C with
  | some ⟨.type "type", _, .cls cd, sl⟩ => (match cd.mro, sl.toList with
    | .ref C' :: bm, [_, _, _, _, some (.builtin n), _] => C' == C && (n == ("ValueError.__new__" : String) && (!cd.hasDel && (cd.hasDict && PySem.HandSPX.refsVE bm)))
    | _, _ => false)
  | _ => false
theorem oexB_ok {K : PySem.W.Frag} {C : Addr} (q : oexB K C = true) : ∃ nm qn N bs bm sn sub ab col dd k0 k1 k2 k3 k5, K.lookup C = some (excClassObj nm qn C N bs bm true sn sub ab col dd k0 k1 k2 k3 k5 "ValueError.__new__") ∧ PySem.HandSPX.refsVE bm = true := by
  unfold oexB at q
  split at q
  · rename_i dd cd sl ho
    split at q
    · rename_i C' bm k0 k1 k2 k3 n k5 hm hs
      simp only [Bool.and_eq_true, beq_iff_eq, Bool.not_eq_true'] at q
      obtain ⟨rfl, rfl, hdel, hdict, ht⟩ := q
      obtain ⟨nm, bs, mro, ns, qn, hd, sn, sub, ab, col, del⟩ := cd
      dsimp only at hm hdel hdict
      subst hm hdel hdict
      have hsl : sl = #[k0, k1, k2, k3, some (.builtin "ValueError.__new__"), k5] := by
        obtain ⟨l⟩ := sl
        simp only at hs
        rw [hs]
      subst hsl
      exact ⟨nm, qn, ns, bs, bm, sn, sub, ab, col, dd, k0, k1, k2, k3, k5, ho, ht⟩
    · cases q
  · cases q
/-- its __init__: one cell, of the class; code of the file; one default, None -/
def iniB (K : PySem.W.Frag) (file x : Str) : Bool := match K.lookup (erI K x) with
  | some ⟨_, _, .func fd, _⟩ => (match fd.closure with
    | [(n, cc)] => decide (n = ("__class__" : Str)) && ((match K.lookup cc with
      | some ⟨_, _, .cell (some (.ref C')), _⟩ => C' == He.ga K x
      | _ => false) && ((match fd.code with
        | .ref c => (match K.lookup c with
          | some ⟨_, _, .fields vs, _⟩ => (match (vs[2]? : Option Value) with
            | some (Value.str f _) => decide (f = file)
            | _ => false)
          | _ => false)
        | _ => false) && (PySem.W.codeIn K fd.code (x ++ (".__init__" : Str)) && (He.dflB K fd.defaults [.non] && He.kwdB K fd.kwdefaults []))))
    | _ => false)
  | _ => false
def errB (K : PySem.W.Frag) (file x : Str) : Bool :=
  oexB K (He.ga K x) && (iniB K file x && (xfB K (He.ga K x) && (decide (PySem.W.findIn K (.ref (He.ga K x)) "__setattr__" = some (some (.builtin "object.__setattr__"))) && (decide (PySem.W.subIn K (.ref (He.ga K x)) (.type "BaseException") = some true) && (decide (PySem.W.typeIn K (.ref (He.ga K x)) = some (.type "type")) && (PySem.W.keepIn K (.ref (He.ga K x)) &&
  (decide (PySem.W.ks_superIn K (He.ga K x) (He.ga K x) "__init__" = some (some (.builtin "ValueError.__init__"))) && (decide (PySem.W.subIn K (.ref (He.ga K x)) (.type "ValueError") = some true) && (decide (PySem.W.mroIn K (He.ga K x) (.ref (He.ga K x)) = some true) && (decide (PySem.W.nsIn K cStatics "thirdparty.any" = some none) && (decide (PySem.W.findIn K (.ref (He.ga K x)) "value" = some none) &&
  (decide (PySem.W.findIn K (.ref (He.ga K x)) "__init__" = some (some (.ref (erI K x)))) && decide (PySem.W.typeIn K (.ref (erI K x)) = some (.type "function"))))))))))))))
structure ErrC (K : PySem.W.Frag) (file x : Str) (st : Stmt) (C fI : Addr) (fd : FuncData) : Prop where
  sup : Sup.SupC K file x st C fI fd
  ini : PySem.W.findIn K (.ref C) "__init__" = some (some (.ref fI))
  ity : PySem.W.typeIn K (.ref fI) = some (.type "function")
  bnd : Binds K fd ["self", "value"] []
  xf : XfC K C
theorem err_ok {K : PySem.W.Frag} {file x : Str} {st : Stmt} (h : errB K file x = true) (e : erW K x = some (("__init__" : Str), x ++ (".__init__" : Str), defArgs st, FuncBody.stmts (defBody st), defScope st, mainGlobals, builtinsNs))
    (hb : ∀ (T cc : Addr) (kV doc pm : Value) (an : Option Addr) (cdv ct : Value) (us its : List Value), us.length = 2 → its.length = 1 →
      ∃ k, bindArgs (PySem.W.ksFn "__init__" (x ++ (".__init__" : Str)) (defArgs st) (defBody st) (defScope st) (.ref T) kV doc pm an cdv ct cc) ⟨us, []⟩ = seqItems? (.ref T) >>= k ∧ k (some its.toArray) = pure ((["self", "value"] : List Str).zip us)) :
    ∃ fd, ErrC K file x st (He.ga K x) (erI K x) fd := by
  unfold errB at h
  obtain ⟨h1, h⟩ := He.ba h
  obtain ⟨h2, h⟩ := He.ba h
  obtain ⟨h3, h⟩ := He.ba h
  obtain ⟨h4, h⟩ := He.ba h
  obtain ⟨h5, h⟩ := He.ba h
  obtain ⟨h6, h⟩ := He.ba h
  obtain ⟨h7, h⟩ := He.ba h
  obtain ⟨h8, h⟩ := He.ba h
  obtain ⟨h9, h⟩ := He.ba h
  obtain ⟨h10, h⟩ := He.ba h
  obtain ⟨h11, h⟩ := He.ba h
  obtain ⟨h12, h⟩ := He.ba h
  obtain ⟨h13, h14⟩ := He.ba h
  unfold iniB at h2
  unfold erW at e
  cases q : K.lookup (erI K x) with
  | none => rw [q] at e; cases e
  | some o =>
    obtain ⟨oc, od, dt, osl⟩ := o
    rw [q] at e h2
    cases dt with
    | func fd =>
      obtain ⟨n1, n2, n3, n4, n5, n6, n7, n8, n9, n10, n11, n12, n13, n14, n15⟩ := fd
      have e2 : (some (n1, n2, n3, n4, n5, n6, n15) : ErW) = some (("__init__" : Str), x ++ (".__init__" : Str), defArgs st, FuncBody.stmts (defBody st), defScope st, mainGlobals, builtinsNs) := e
      simp only [Option.some.injEq, Prod.mk.injEq] at e2
      obtain ⟨r1, r2, r3, r4, r5, r6, r7⟩ := e2
      subst r1 r2 r3 r4 r5 r6 r7
      dsimp only at h2
      split at h2
      · rename_i n cc
        obtain ⟨k1, h2⟩ := He.ba h2
        obtain ⟨k2, h2⟩ := He.ba h2
        obtain ⟨k3, h2⟩ := He.ba h2
        obtain ⟨k4, h2⟩ := He.ba h2
        obtain ⟨k5, k6⟩ := He.ba h2
        obtain rfl := of_decide_eq_true k1
        split at k2
        · rename_i cl cld C' csl lcc
          obtain rfl := beq_iff_eq.mp k2
          split at k3
          · rename_i c0
            split at k3
            · rename_i ccl cdd vs ccs lc
              split at k3
              · rename_i f tf hvs
                obtain rfl := of_decide_eq_true k3
                have D := He.dflB_ok k5
                refine ⟨_, ⟨⟨⟨oexB_ok h1, of_decide_eq_true h4, of_decide_eq_true h5, of_decide_eq_true h6, h7⟩, ⟨oc, od, n8, n9, n10, n11, n12, _, cc, n14, osl, rfl, q, k4, ⟨ccl, cdd, vs, ccs, tf, lc, hvs⟩, cl, cld, csl, lcc⟩,
                  of_decide_eq_true h8, of_decide_eq_true h9, of_decide_eq_true h10, of_decide_eq_true h11, of_decide_eq_true h12⟩, of_decide_eq_true h13, of_decide_eq_true h14, ?_, xfB_ok h3⟩⟩
                rcases D with ⟨z, _⟩ | ⟨_, T, o, its, m, rfl, lT, oT, rT⟩
                · cases z
                · intro s us X hlen
                  rw [List.append_nil] at hlen ⊢
                  obtain ⟨k, e1, e2⟩ := hb T cc n9 n10 n11 n12 _ n14 us its hlen rT.length.symm
                  refine BindsTo.of_looks fun M => ?_
                  refine Eq.mpr (congrArg (fun z => PySem.W.Looks M s.heap z _) e1) ?_
                  exact looks_items X lT oT (.of_pure e2)
              · cases k3
            · cases k3
          · cases k3
        · cases k2
      · cases h2
    | _ => cases e
end My

namespace My
/-! ### rows without a mark: the mark is A ++ [z] -/
section
variable (A : List Bool) (z : Bool)
def stG : List Bool → List Bool → List Bool
  | t, [] => t
  | t, b :: r => if A <:+ t ++ [b] then stG (t ++ [b] ++ [!z]) r else stG (t ++ [b]) r
def stuff (bs : List Bool) : List Bool := stG A z [] bs
def baG : List Bool → List Bool → List Bool → Option (List Bool)
  | t, o, [] => if A <:+ t then none else some o
  | t, o, b :: r => if A <:+ t then (if b = !z then baG (t ++ [b]) o r else none) else baG (t ++ [b]) (o ++ [b]) r
def bareO (w : List Bool) : Option (List Bool) := baG A z [] [] w
/-- behind each A stands the other bit -/
def Clean (w : List Bool) : Prop := ∀ i, A <:+ w.take i → w[i]? = some (!z)
/-- it can be kept out -/
def Keep : Prop := A ≠ [] ∧ A ≠ List.replicate A.length (!z)
end
variable {A : List Bool} {z : Bool}
theorem stG_cons (t : List Bool) (b : Bool) (r : List Bool) : stG A z t (b :: r) = if A <:+ t ++ [b] then stG A z (t ++ [b] ++ [!z]) r else stG A z (t ++ [b]) r := rfl
theorem stG_app (t x y : List Bool) : stG A z t (x ++ y) = stG A z (stG A z t x) y := by
  induction x generalizing t with
  | nil => rfl
  | cons b r ih =>
    rw [List.cons_append, stG_cons, stG_cons]
    split
    · exact ih _
    · exact ih _
theorem stG_pre (t x : List Bool) : t <+: stG A z t x := by
  induction x generalizing t with
  | nil => exact List.prefix_refl t
  | cons b r ih =>
    unfold stG
    split
    · exact (by rw [List.append_assoc]; exact List.prefix_append t _ : t <+: t ++ [b] ++ [!z]).trans (ih _)
    · exact (List.prefix_append t _).trans (ih _)
theorem stG_next (t x : List Bool) (b : Bool) : t ++ [b] <+: stG A z t (b :: x) := by
  unfold stG
  split
  · exact (List.prefix_append (t ++ [b]) _).trans (stG_pre _ _)
  · exact stG_pre _ _
theorem all_same {c : Bool} : ∀ {A : List Bool} {x : Bool}, A ++ [c] = x :: A → A = List.replicate A.length c
  | [], _, _ => rfl
  | y :: r, x, h => by
    rw [List.cons_append] at h
    injection h with h1 h2
    have ih := all_same h2
    rw [List.length_cons, List.replicate_succ']
    have e : y :: r = r ++ [c] := h2.symm
    rw [e, ← ih]
theorem suffix_same {t : List Bool} {c : Bool} (h1 : A <:+ t) (h2 : A <:+ t ++ [c]) : A = List.replicate A.length c := by
  obtain ⟨u, rfl⟩ := h1
  obtain ⟨v, hv⟩ := h2
  have hl : v.length = u.length + 1 := by
    have := congrArg List.length hv
    simp at this
    omega
  rcases u.eq_nil_or_concat with rfl | ⟨u', y, rfl⟩
  · rcases v with _ | ⟨x, _ | ⟨x2, v⟩⟩
    · simp at hl
    · exact all_same (x := x) (by simpa using hv.symm)
    · simp at hl
  · rw [List.concat_eq_append] at *
    have e : v ++ A = (u' ++ [y]) ++ (A ++ [c]) := by rw [hv]; simp
    have e2 := congrArg (List.drop (u' ++ [y]).length) e
    rw [List.drop_left, List.drop_append_of_le_length (by omega)] at e2
    have hl2 : (v.drop (u' ++ [y]).length).length = 1 := by rw [List.length_drop, hl]; simp
    cases e3 : v.drop (u' ++ [y]).length with
    | nil => rw [e3] at hl2; cases hl2
    | cons x r =>
      rw [e3] at hl2 e2
      have hr : r = [] := List.eq_nil_of_length_eq_zero (by simpa using hl2)
      subst hr
      exact all_same (x := x) e2.symm
theorem clean_ends {w : List Bool} (h : Clean A z w) : ¬ A <:+ w := fun e => by
  have := h w.length (by rw [List.take_length]; exact e)
  rw [List.getElem?_eq_none (Nat.le_refl _)] at this
  cases this
theorem clean_more {t : List Bool} {b : Bool} (h : Clean A z t) (n : ¬ A <:+ t ++ [b]) : Clean A z (t ++ [b]) := fun i e => by
  by_cases hi : i ≤ t.length
  · rw [List.take_append_of_le_length hi] at e
    have := h i e
    have hlt := (List.getElem?_eq_some_iff.mp this).1
    rw [List.getElem?_append_left hlt]
    exact this
  · rw [List.take_of_length_le (by rw [List.length_append, List.length_singleton]; omega)] at e
    exact absurd e n
theorem clean_stuffed {t : List Bool} {b : Bool} (k : Keep A z) (h : Clean A z t) (s : A <:+ t ++ [b]) : Clean A z (t ++ [b] ++ [!z]) := fun i e => by
  by_cases hi : i ≤ t.length
  · rw [List.append_assoc, List.take_append_of_le_length hi] at e
    have := h i e
    have hlt := (List.getElem?_eq_some_iff.mp this).1
    rw [List.append_assoc, List.getElem?_append_left hlt]
    exact this
  · by_cases hi2 : i = t.length + 1
    · subst hi2
      rw [List.getElem?_append_right (by simp)]
      simp
    · rw [List.take_of_length_le (by simp; omega)] at e
      exact absurd (suffix_same s e) k.2
theorem stG_clean (k : Keep A z) {t : List Bool} (h : Clean A z t) (x : List Bool) : Clean A z (stG A z t x) := by
  induction x generalizing t with
  | nil => exact h
  | cons b r ih =>
    unfold stG
    split
    · exact ih (clean_stuffed k h (by assumption))
    · exact ih (clean_more h (by assumption))
theorem clean_nil (k : Keep A z) : Clean A z [] := fun i e => by
  rw [List.take_nil, List.suffix_nil] at e
  exact absurd e k.1
theorem stuff_clean (k : Keep A z) (x : List Bool) : Clean A z (stuff A z x) := stG_clean k (clean_nil k) x
theorem baG_st (k : Keep A z) {t : List Bool} (h : Clean A z t) (o x : List Bool) : ∃ rest, stG A z t x = t ++ rest ∧ baG A z t o rest = some (o ++ x) := by
  induction x generalizing t o with
  | nil => exact ⟨[], by unfold stG; simp, by unfold baG; rw [if_neg (clean_ends h)]; simp⟩
  | cons b r ih =>
    by_cases s : A <:+ t ++ [b]
    · obtain ⟨rest, h1, h2⟩ := ih (clean_stuffed k h s) (o ++ [b])
      refine ⟨b :: (!z) :: rest, ?_, ?_⟩
      · unfold stG
        rw [if_pos s, h1]
        simp
      · unfold baG
        rw [if_neg (clean_ends h)]
        unfold baG
        rw [if_pos s, if_pos rfl, h2]
        simp
    · obtain ⟨rest, h1, h2⟩ := ih (clean_more h s) (o ++ [b])
      refine ⟨b :: rest, ?_, ?_⟩
      · unfold stG
        rw [if_neg s, h1]
        simp
      · unfold baG
        rw [if_neg (clean_ends h), h2]
        simp
theorem bare_stuff (k : Keep A z) (x : List Bool) : bareO A z (stuff A z x) = some x := by
  obtain ⟨rest, h1, h2⟩ := baG_st k (clean_nil k) [] x
  unfold stuff bareO
  rw [h1]
  exact h2
theorem stuff_inj (k : Keep A z) {x y : List Bool} (h : stuff A z x = stuff A z y) : x = y := by
  have h1 := bare_stuff k x
  rw [h, bare_stuff k y] at h1
  exact (Option.some.inj h1).symm
theorem stuff_snoc (x : List Bool) (b : Bool) : stuff A z (x ++ [b]) = if A <:+ stuff A z x ++ [b] then stuff A z x ++ [b] ++ [!z] else stuff A z x ++ [b] := by
  unfold stuff
  rw [stG_app]
  rfl
theorem baG_some (k : Keep A z) {t o x : List Bool} : ∀ {w : List Bool}, ((¬ A <:+ t ∧ stuff A z o = t) ∨ (A <:+ t ∧ stuff A z o = t ++ [!z])) → baG A z t o w = some x → stuff A z x = t ++ w := by
  intro w
  induction w generalizing t o with
  | nil =>
    intro J h
    unfold baG at h
    split at h
    · cases h
    · rename_i n
      cases h
      rcases J with ⟨_, e⟩ | ⟨s, _⟩
      · rw [e]; simp
      · exact absurd s n
  | cons b r ih =>
    intro J h
    unfold baG at h
    split at h
    · rename_i s
      split at h
      · rename_i e
        subst e
        rcases J with ⟨n, _⟩ | ⟨_, e⟩
        · exact absurd s n
        · have := ih (t := t ++ [!z]) (o := o) (.inl ⟨by rw [← e]; exact clean_ends (stuff_clean k o), e⟩) h
          rw [this]
          simp
      · cases h
    · rename_i n
      rcases J with ⟨_, e⟩ | ⟨s, _⟩
      · have e2 := stuff_snoc (A := A) (z := z) o b
        rw [e] at e2
        have := ih (t := t ++ [b]) (o := o ++ [b]) (by
          by_cases s : A <:+ t ++ [b]
          · rw [if_pos s] at e2
            exact .inr ⟨s, e2⟩
          · rw [if_neg s] at e2
            exact .inl ⟨s, e2⟩) h
        rw [this]
        simp
      · exact absurd s n
theorem bare_some (k : Keep A z) {w x : List Bool} (h : bareO A z w = some x) : stuff A z x = w := by
  have := baG_some k (t := []) (o := []) (w := w) (.inl ⟨fun e => k.1 (List.suffix_nil.mp e), rfl⟩) h
  simpa using this
theorem baG_clean {w : List Bool} (h : Clean A z w) : ∀ (r t o : List Bool), w = t ++ r → ∃ x, baG A z t o r = some x
  | [], t, o, e => by
    rw [List.append_nil] at e
    subst e
    unfold baG
    rw [if_neg (clean_ends h)]
    exact ⟨_, rfl⟩
  | b :: r, t, o, e => by
    unfold baG
    by_cases s : A <:+ t
    · rw [if_pos s]
      have h1 := h t.length (by rw [e, List.take_left]; exact s)
      rw [e, List.getElem?_append_right (Nat.le_refl _), Nat.sub_self] at h1
      have hb : b = !z := Option.some.inj h1
      rw [if_pos hb]
      exact baG_clean h r _ _ (by rw [e]; simp)
    · rw [if_neg s]
      exact baG_clean h r _ _ (by rw [e]; simp)
theorem bare_clean {w : List Bool} (h : Clean A z w) : ∃ x, bareO A z w = some x := baG_clean h w [] [] rfl
theorem bare_iff (k : Keep A z) {w : List Bool} : (∃ x, bareO A z w = some x) ↔ Clean A z w := ⟨fun ⟨x, h⟩ => by rw [← bare_some k h]; exact stuff_clean k x, bare_clean⟩
theorem clean_iff (w : List Bool) : Clean A z w ↔ ¬ A ++ [z] <:+: w ∧ ¬ A <:+ w := by
  constructor
  · intro h
    refine ⟨fun ⟨u, v, e⟩ => ?_, clean_ends h⟩
    have h1 := h (u.length + A.length) (by
      rw [← e, show u ++ (A ++ [z]) ++ v = (u ++ A) ++ ([z] ++ v) by simp, show u.length + A.length = (u ++ A).length by simp, List.take_left]
      exact List.suffix_append u A)
    rw [← e, show u ++ (A ++ [z]) ++ v = (u ++ A) ++ ([z] ++ v) by simp, List.getElem?_append_right (by simp)] at h1
    simp at h1
  · rintro ⟨h1, h2⟩ i e
    by_cases hi : i < w.length
    · rw [List.getElem?_eq_getElem hi]
      congr 1
      by_cases hz : w[i] = z
      · exfalso
        obtain ⟨u, hu⟩ := e
        refine h1 ⟨u, w.drop (i + 1), ?_⟩
        have : w = w.take i ++ ([w[i]] ++ w.drop (i + 1)) := by
          conv => lhs; rw [← List.take_append_drop i w, List.drop_eq_getElem_cons hi]
          rfl
        conv => rhs; rw [this, ← hu, hz]
        simp
      · cases hw : w[i] <;> cases z <;> simp_all
    · rw [List.take_of_length_le (by omega)] at e
      exact absurd e h2
theorem stG_len (t x : List Bool) : t.length + x.length ≤ (stG A z t x).length ∧ (stG A z t x).length ≤ t.length + 2 * x.length := by
  induction x generalizing t with
  | nil => simp [stG]
  | cons b r ih =>
    unfold stG
    split
    · have := ih (t ++ [b] ++ [!z])
      simp at this ⊢
      omega
    · have := ih (t ++ [b])
      simp at this ⊢
      omega
theorem stuff_len (x : List Bool) : x.length ≤ (stuff A z x).length ∧ (stuff A z x).length ≤ 2 * x.length := by
  have := stG_len (A := A) (z := z) [] x
  simpa [stuff] using this
/-- the last bits, as many as A has -/
def lastK (A t : List Bool) : List Bool := t.drop (t.length - A.length)
theorem lastK_iff (A t : List Bool) : lastK A t = A ↔ A <:+ t := by
  unfold lastK
  rw [List.suffix_iff_eq_drop]
  exact ⟨fun h => h.symm, fun h => h.symm⟩
theorem lastK_snoc (A t : List Bool) (b : Bool) : (lastK A t ++ [b]).drop ((lastK A t ++ [b]).length - A.length) = lastK A (t ++ [b]) := by
  unfold lastK
  have e : (t ++ [b]).drop ((t ++ [b]).length - A.length) = ((t ++ [b]).drop (t.length - A.length)).drop ((t ++ [b]).length - A.length - (t.length - A.length)) := by
    rw [List.drop_drop]
    congr 1
    rw [List.length_append]
    omega
  rw [e, List.drop_append_of_le_length (l₁ := t) (by omega)]
  congr 1
  rw [List.length_append, List.length_append, List.length_drop]
  omega
end My

namespace My
/-! ### how rows without a mark grow: states -/
/-- the longest beginning of m at the end of w, at most n -/
def lbG (m w : List Bool) : Nat → Nat
  | 0 => 0
  | n + 1 => if w.drop (w.length - (n + 1)) = m.take (n + 1) then n + 1 else lbG m w n
def lb (m w : List Bool) : Nat := lbG m w w.length
theorem take_suf {m w : List Bool} {n : Nat} (h1 : n ≤ m.length) : m.take n <:+ w ↔ n ≤ w.length ∧ w.drop (w.length - n) = m.take n := by
  constructor
  · intro h
    have hl := h.length_le
    rw [List.length_take, Nat.min_eq_left h1] at hl
    refine ⟨hl, ?_⟩
    have := List.suffix_iff_eq_drop.mp h
    rw [List.length_take, Nat.min_eq_left h1] at this
    exact this.symm
  · rintro ⟨_, e⟩
    rw [← e]
    exact List.drop_suffix _ _
theorem lbG_spec (m w : List Bool) : ∀ k, k ≤ w.length → lbG m w k ≤ k ∧ lbG m w k ≤ m.length ∧ m.take (lbG m w k) <:+ w ∧ ∀ n, n ≤ k → n ≤ m.length → m.take n <:+ w → n ≤ lbG m w k
  | 0, _ => ⟨Nat.le_refl _, Nat.zero_le _, by rw [lbG, List.take_zero]; exact List.nil_suffix, fun n h _ _ => h⟩
  | k + 1, hk => by
    obtain ⟨i1, i2, i3, i4⟩ := lbG_spec m w k (by omega)
    unfold lbG
    split
    · rename_i h
      have hm : k + 1 ≤ m.length := by
        have := congrArg List.length h
        rw [List.length_drop, List.length_take] at this
        omega
      exact ⟨Nat.le_refl _, hm, (take_suf hm).mpr ⟨hk, h⟩, fun n h _ _ => h⟩
    · rename_i h
      refine ⟨by omega, i2, i3, fun n h1 h2 h3 => ?_⟩
      by_cases e : n = k + 1
      · subst e
        exact absurd ((take_suf h2).mp h3).2 h
      · exact i4 n (by omega) h2 h3
theorem lb_le (m w : List Bool) : lb m w ≤ w.length := (lbG_spec m w _ (Nat.le_refl _)).1
theorem lb_lem (m w : List Bool) : lb m w ≤ m.length := (lbG_spec m w _ (Nat.le_refl _)).2.1
theorem lb_suf (m w : List Bool) : m.take (lb m w) <:+ w := (lbG_spec m w _ (Nat.le_refl _)).2.2.1
theorem lb_max {m w : List Bool} {n : Nat} (h1 : n ≤ m.length) (h2 : m.take n <:+ w) : n ≤ lb m w := (lbG_spec m w _ (Nat.le_refl _)).2.2.2 n ((take_suf h1).mp h2).1 h1 h2
theorem lb_same {m w v : List Bool} (h : ∀ n, n ≤ m.length → (m.take n <:+ w ↔ m.take n <:+ v)) : lb m w = lb m v :=
  Nat.le_antisymm (lb_max (lb_lem _ _) ((h _ (lb_lem _ _)).mp (lb_suf _ _))) (lb_max (lb_lem _ _) ((h _ (lb_lem _ _)).mpr (lb_suf _ _)))
theorem snoc_suf {u w : List Bool} {a b : Bool} : u ++ [a] <:+ w ++ [b] ↔ u <:+ w ∧ a = b := by
  constructor
  · rintro ⟨t, e⟩
    rw [← List.append_assoc] at e
    obtain ⟨e1, e2⟩ := List.append_inj' e rfl
    exact ⟨⟨t, e1⟩, by cases e2; rfl⟩
  · rintro ⟨⟨t, e⟩, rfl⟩
    exact ⟨t, by rw [← e, List.append_assoc]⟩
theorem lb_step (m w : List Bool) (b : Bool) : lb m (w ++ [b]) = lb m (m.take (lb m w) ++ [b]) := by
  refine lb_same fun n hn => ?_
  cases n with
  | zero => simp
  | succ k =>
    have hk : k < m.length := by omega
    have e : m.take (k + 1) = m.take k ++ [m[k]] := by rw [List.take_add_one, List.getElem?_eq_getElem hk]; rfl
    rw [e, snoc_suf, snoc_suf]
    have : m.take k <:+ w ↔ m.take k <:+ m.take (lb m w) := by
      constructor
      · intro h
        have hle := lb_max (by omega) h
        refine List.suffix_of_suffix_length_le h (lb_suf m w) ?_
        rw [List.length_take, List.length_take]
        omega
      · exact fun h => h.trans (lb_suf m w)
    rw [this]
section
variable (A : List Bool) (z : Bool)
/-- the state behind what is put in -/
def beh : Nat := lb (A ++ [z]) (A ++ [!z])
/-- the state behind a bit, and whether one is put in -/
def stepS (s : Nat) (b : Bool) : Nat × Nat := if lb (A ++ [z]) ((A ++ [z]).take s ++ [b]) = A.length then (beh A z, 1) else (lb (A ++ [z]) ((A ++ [z]).take s ++ [b]), 0)
/-- the state behind a row -/
def stA (x : List Bool) : Nat := lb (A ++ [z]) (stuff A z x)
def grA (x : List Bool) : Nat := (stuff A z x).length - x.length
end
variable {A : List Bool} {z : Bool}
theorem lb_A {w : List Bool} (c : ¬ A ++ [z] <:+ w) : lb (A ++ [z]) w ≤ A.length ∧ (lb (A ++ [z]) w = A.length ↔ A <:+ w) := by
  have h1 := lb_lem (A ++ [z]) w
  rw [List.length_append, List.length_singleton] at h1
  have h2 : lb (A ++ [z]) w ≠ A.length + 1 := fun e => c (by
    have := lb_suf (A ++ [z]) w
    rw [e, List.take_of_length_le (by rw [List.length_append]; exact Nat.le_refl _)] at this
    exact this)
  have hA : (A ++ [z]).take A.length = A := List.take_left
  refine ⟨by omega, fun e => ?_, fun h => ?_⟩
  · have := lb_suf (A ++ [z]) w
    rw [e, hA] at this
    exact this
  · have := lb_max (m := A ++ [z]) (n := A.length) (by rw [List.length_append]; omega) (by rw [hA]; exact h)
    omega
theorem gr_len (x : List Bool) : (stuff A z x).length = x.length + grA A z x := by
  have := (stuff_len (A := A) (z := z) x).1
  unfold grA
  omega
theorem st_lt (k : Keep A z) (x : List Bool) : stA A z x < A.length := by
  have hc := stuff_clean k x
  have he := clean_ends hc
  have hm : ¬ A ++ [z] <:+ stuff A z x := fun h => ((clean_iff _).mp hc).1 h.isInfix
  obtain ⟨h1, h2⟩ := lb_A hm
  unfold stA
  have : lb (A ++ [z]) (stuff A z x) ≠ A.length := fun e => he (h2.mp e)
  omega
theorem st_step (k : Keep A z) (x : List Bool) (b : Bool) : stA A z (x ++ [b]) = (stepS A z (stA A z x) b).1 ∧ grA A z (x ++ [b]) = grA A z x + (stepS A z (stA A z x) b).2 := by
  have hc := stuff_clean k x
  have he := clean_ends hc
  have e1 : lb (A ++ [z]) (stuff A z x ++ [b]) = lb (A ++ [z]) ((A ++ [z]).take (stA A z x) ++ [b]) := lb_step _ _ _
  have hm : ¬ A ++ [z] <:+ stuff A z x ++ [b] := fun h => he (snoc_suf.mp h).1
  obtain ⟨h1, h2⟩ := lb_A hm
  have hs := stuff_snoc (A := A) (z := z) x b
  have hl := gr_len (A := A) (z := z) x
  unfold stepS
  rw [← e1]
  by_cases c : A <:+ stuff A z x ++ [b]
  · rw [if_pos (h2.mpr c)]
    rw [if_pos c] at hs
    refine ⟨?_, ?_⟩
    · unfold stA beh
      rw [hs, lb_step, h2.mpr c, List.take_left]
    · unfold grA
      rw [hs, List.length_append, List.length_append, List.length_append, List.length_singleton, List.length_singleton]
      show _ = _ + 1
      omega
  · rw [if_neg fun e => c (h2.mp e)]
    rw [if_neg c] at hs
    refine ⟨?_, ?_⟩
    · unfold stA
      rw [hs]
    · unfold grA
      rw [hs, List.length_append, List.length_append, List.length_singleton]
      show _ = _ + 0
      omega
theorem st_nil : stA A z [] = 0 := by
  have := lb_le (A ++ [z]) (stuff A z [])
  unfold stA
  have e : stuff A z [] = [] := rfl
  rw [e] at this ⊢
  simpa using this
theorem gr_nil : grA A z [] = 0 := rfl
theorem beh_lt (k : Keep A z) : beh A z < A.length := by
  have hm : ¬ A ++ [z] <:+ A ++ [!z] := fun h => by
    have := (snoc_suf.mp h).2
    cases z <;> cases this
  obtain ⟨h1, h2⟩ := lb_A hm
  unfold beh
  have : lb (A ++ [z]) (A ++ [!z]) ≠ A.length := fun e => k.2 (suffix_same (List.suffix_refl A) (h2.mp e))
  omega
theorem step_up (s : Nat) (b : Bool) : lb (A ++ [z]) ((A ++ [z]).take s ++ [b]) ≤ s + 1 := by
  have := lb_le (A ++ [z]) ((A ++ [z]).take s ++ [b])
  rw [List.length_append, List.length_take, List.length_singleton] at this
  omega
/-- the room that growth takes -/
theorem gr_roomN (k : Keep A z) : ∀ (n : Nat) (x : List Bool), x.length = n → (grA A z x = 0 ∧ stA A z x ≤ x.length) ∨ ∃ g, grA A z x = g + 1 ∧ stA A z x + A.length + g * (A.length - beh A z) ≤ x.length + beh A z ∧ A.length + g * (A.length - beh A z) ≤ x.length := by
  intro n
  induction n with
  | zero =>
    intro x hx
    rw [List.length_eq_zero_iff.mp hx]
    exact .inl ⟨gr_nil, by rw [st_nil]; exact Nat.zero_le _⟩
  | succ n ih =>
    intro x hx
    obtain ⟨r, b, rfl⟩ : ∃ r b, x = r ++ [b] := ⟨x.dropLast, x.getLast (by intro e; rw [e] at hx; cases hx), (List.dropLast_concat_getLast _).symm⟩
    rw [List.length_append, List.length_singleton] at hx
    obtain ⟨e1, e2⟩ := st_step k r b
    have hb := beh_lt k
    have ih := ih r (by omega)
    have hu := step_up (A := A) (z := z) (stA A z r) b
    rw [e1, e2, List.length_append, List.length_singleton]
    unfold stepS
    by_cases c : lb (A ++ [z]) ((A ++ [z]).take (stA A z r) ++ [b]) = A.length
    · rw [if_pos c]
      show (_ + 1 = 0 ∧ _) ∨ ∃ g, _ + 1 = g + 1 ∧ beh A z + A.length + g * _ ≤ _ ∧ _
      rcases ih with ⟨i1, i2⟩ | ⟨g, i1, i2, i3⟩
      · exact .inr ⟨0, by omega, by omega, by omega⟩
      · refine .inr ⟨g + 1, by omega, ?_, ?_⟩ <;> (rw [Nat.add_mul, Nat.one_mul]; omega)
    · rw [if_neg c]
      show (_ + 0 = 0 ∧ _) ∨ ∃ g, _ + 0 = g + 1 ∧ _ + A.length + g * _ ≤ _ ∧ _
      rcases ih with ⟨i1, i2⟩ | ⟨g, i1, i2, i3⟩
      · exact .inl ⟨by omega, by omega⟩
      · exact .inr ⟨g, by omega, by omega, by omega⟩
/-- at most so much -/
def mostG (A : List Bool) (z : Bool) (n : Nat) : Nat := if n < A.length then 0 else 1 + (n - A.length) / (A.length - beh A z)
theorem gr_most (k : Keep A z) (x : List Bool) : grA A z x ≤ mostG A z x.length := by
  have hb := beh_lt k
  unfold mostG
  rcases gr_roomN k x.length x rfl with ⟨h, _⟩ | ⟨g, h, _, h3⟩
  · rw [h]; exact Nat.zero_le _
  · rw [if_neg (by omega), h]
    have : g ≤ (x.length - A.length) / (A.length - beh A z) := (Nat.le_div_iff_mul_le (by omega)).mpr (by omega)
    omega
/-- growth never goes back -/
theorem gr_mono (k : Keep A z) (x : List Bool) : ∀ y : List Bool, grA A z x ≤ grA A z (x ++ y) := by
  intro y
  induction y generalizing x with
  | nil => rw [List.append_nil]; exact Nat.le_refl _
  | cons b r ih =>
    have h := ih (x ++ [b])
    rw [List.append_assoc] at h
    have := (st_step k x b).2
    exact Nat.le_trans (by omega) h
/-- the row that grows most -/
def mostR (A : List Bool) (z : Bool) (k : Nat) : List Bool := A ++ (List.replicate k (A.drop (beh A z))).flatten
theorem beh_suf (A : List Bool) (z : Bool) (h : beh A z < A.length) : A.take (beh A z) <:+ A ++ [!z] := by
  have := lb_suf (A ++ [z]) (A ++ [!z])
  rw [List.take_append_of_le_length (by unfold beh at h; omega)] at this
  exact this
theorem plain_grow (k : Keep A z) (x y : List Bool) (h : grA A z (x ++ y) = grA A z x) : stuff A z (x ++ y) = stuff A z x ++ y := by
  induction y generalizing x with
  | nil => simp
  | cons b r ih =>
    have e : x ++ b :: r = x ++ [b] ++ r := by simp
    rw [e] at h ⊢
    have m1 := gr_mono k (x ++ [b]) r
    have m2 := gr_mono k x [b]
    have h1 : grA A z (x ++ [b]) = grA A z x := by omega
    rw [ih (x ++ [b]) (by omega)]
    have hs := stuff_snoc (A := A) (z := z) x b
    have hl := gr_len (A := A) (z := z) x
    have hl2 := gr_len (A := A) (z := z) (x ++ [b])
    by_cases c : A <:+ stuff A z x ++ [b]
    · rw [if_pos c] at hs
      rw [hs, List.length_append, List.length_append, List.length_append, List.length_singleton, List.length_singleton] at hl2
      omega
    · rw [if_neg c] at hs
      rw [hs]
      simp
/-- feeding up to A's end puts one in -/
theorem feed (k : Keep A z) {x y : List Bool} (hy : y ≠ []) (h : grA A z (x ++ y.dropLast) = grA A z x) (hs : A <:+ stuff A z x ++ y) : stuff A z (x ++ y) = stuff A z x ++ y ++ [!z] ∧ grA A z (x ++ y) = grA A z x + 1 := by
  have e : y = y.dropLast ++ [y.getLast hy] := (List.dropLast_concat_getLast hy).symm
  have h1 := plain_grow k x y.dropLast h
  have h2 : x ++ y = x ++ y.dropLast ++ [y.getLast hy] := by rw [List.append_assoc, ← e]
  have h3 : stuff A z (x ++ y.dropLast) ++ [y.getLast hy] = stuff A z x ++ y := by rw [h1, List.append_assoc, ← e]
  have h4 := stuff_snoc (A := A) (z := z) (x ++ y.dropLast) (y.getLast hy)
  rw [h3, if_pos hs, ← h2] at h4
  refine ⟨h4, ?_⟩
  have l1 := gr_len (A := A) (z := z) (x ++ y)
  have l2 := gr_len (A := A) (z := z) x
  rw [h4, List.length_append, List.length_append, List.length_append, List.length_singleton] at l1
  omega
theorem mostR_len (A : List Bool) (z : Bool) (j : Nat) : (mostR A z j).length = A.length + j * (A.length - beh A z) := by
  unfold mostR
  rw [List.length_append]
  congr 1
  induction j with
  | zero => simp
  | succ j ih => rw [List.replicate_succ, List.flatten_cons, List.length_append, ih, List.length_drop, Nat.succ_mul]; omega
theorem mostR_succ (A : List Bool) (z : Bool) (j : Nat) : mostR A z (j + 1) = mostR A z j ++ A.drop (beh A z) := by
  unfold mostR
  rw [List.replicate_succ', List.flatten_append, List.append_assoc]
  simp
theorem mostG_at (k : Keep A z) {j r : Nat} (hr : r < A.length - beh A z) : mostG A z (A.length + j * (A.length - beh A z) + r) = 1 + j := by
  unfold mostG
  rw [if_neg (by omega), show A.length + j * (A.length - beh A z) + r - A.length = r + j * (A.length - beh A z) by omega, Nat.add_mul_div_right _ _ (by omega), Nat.div_eq_of_lt hr]
  omega
theorem mostR_grow (k : Keep A z) : ∀ j, A ++ [!z] <:+ stuff A z (mostR A z j) ∧ grA A z (mostR A z j) = j + 1 := by
  have hb := beh_lt k
  intro j
  induction j with
  | zero =>
    have e : mostR A z 0 = [] ++ A := by unfold mostR; simp
    have hd : grA A z ([] ++ A.dropLast) = grA A z [] := by
      have := gr_most k ([] ++ A.dropLast)
      rw [List.nil_append] at this ⊢
      unfold mostG at this
      rw [if_pos (by rw [List.length_dropLast]; have := k.1; have : A.length ≠ 0 := fun e => this (List.length_eq_zero_iff.mp e); omega)] at this
      rw [gr_nil]
      omega
    obtain ⟨f1, f2⟩ := feed k (x := []) (y := A) k.1 hd (List.suffix_append _ _)
    rw [e, f1, f2]
    exact ⟨by rw [List.append_assoc]; exact List.suffix_append _ _, by rw [gr_nil]⟩
  | succ j ih =>
    obtain ⟨i1, i2⟩ := ih
    rw [mostR_succ]
    have hy : A.drop (beh A z) ≠ [] := by
      intro e
      have := congrArg List.length e
      rw [List.length_drop, List.length_nil] at this
      omega
    have hyl : (A.drop (beh A z)).length = A.length - beh A z := List.length_drop
    have hd : grA A z (mostR A z j ++ (A.drop (beh A z)).dropLast) = grA A z (mostR A z j) := by
      have h1 := gr_mono k (mostR A z j) (A.drop (beh A z)).dropLast
      have h2 := gr_most k (mostR A z j ++ (A.drop (beh A z)).dropLast)
      rw [List.length_append, mostR_len, List.length_dropLast, hyl, mostG_at k (by omega)] at h2
      omega
    have hs : A <:+ stuff A z (mostR A z j) ++ A.drop (beh A z) := by
      have h1 : A.take (beh A z) <:+ stuff A z (mostR A z j) := (beh_suf A z hb).trans i1
      obtain ⟨u, eu⟩ := h1
      refine ⟨u, ?_⟩
      rw [← eu, List.append_assoc, List.take_append_drop]
    obtain ⟨f1, f2⟩ := feed k hy hd hs
    refine ⟨?_, by rw [f2, i2]⟩
    rw [f1]
    obtain ⟨u, eu⟩ := hs
    exact ⟨u, by rw [← List.append_assoc, eu]⟩
/-- cut to any length it grows most -/
theorem mostR_take (k : Keep A z) {n j : Nat} (h : n ≤ (mostR A z j).length) : grA A z ((mostR A z j).take n) = mostG A z n := by
  have hb := beh_lt k
  have hl : ((mostR A z j).take n).length = n := by rw [List.length_take]; omega
  have h1 := gr_most k ((mostR A z j).take n)
  rw [hl] at h1
  refine Nat.le_antisymm h1 ?_
  by_cases hn : n < A.length
  · unfold mostG
    rw [if_pos hn]
    exact Nat.zero_le _
  · have hD : 0 < A.length - beh A z := by omega
    have e := Nat.div_add_mod (n - A.length) (A.length - beh A z)
    have hm := Nat.mod_lt (n - A.length) hD
    generalize (n - A.length) / (A.length - beh A z) = q at *
    generalize (n - A.length) % (A.length - beh A z) = r at *
    have en : n = A.length + q * (A.length - beh A z) + r := by rw [Nat.mul_comm] at e; omega
    rw [en, mostG_at k hm, ← en]
    have hq : mostR A z q <+: (mostR A z j).take n := by
      have hqj : q ≤ j := by
        rw [mostR_len] at h
        exact Nat.le_of_mul_le_mul_right (c := A.length - beh A z) (by omega) hD
      have hp : mostR A z q <+: mostR A z j := by
        have : ∀ d, mostR A z q <+: mostR A z (q + d) := fun d => by
          induction d with
          | zero => exact List.prefix_refl _
          | succ d ih =>
            rw [← Nat.add_assoc, mostR_succ]
            exact ih.trans (List.prefix_append _ _)
        have := this (j - q)
        rw [show q + (j - q) = j by omega] at this
        exact this
      refine List.prefix_of_prefix_length_le hp (List.take_prefix _ _) ?_
      rw [hl, mostR_len]
      omega
    obtain ⟨u, eu⟩ := hq
    have := gr_mono k (mostR A z q) u
    rw [eu, (mostR_grow k q).2] at this
    omega
end My

namespace My
def GoodM (A : List Bool) (z : Bool) : Prop := 1 ≤ A.length ∧ A.length ≤ 15 ∧ Keep A z
/-! ### words -/
/-- all words of a length, as they are made -/
def wds : Nat → List (List Bool)
  | 0 => [[]]
  | n + 1 => (wds n).flatMap fun x => [x ++ [false], x ++ [true]]
theorem flat2_len (l : List (List Bool)) : (l.flatMap fun x => [x ++ [false], x ++ [true]]).length = 2 * l.length := by
  induction l with
  | nil => rfl
  | cons x r ih => rw [List.flatMap_cons, List.length_append, ih]; show 2 + _ = 2 * (r.length + 1); omega
theorem wds_len : ∀ n, (wds n).length = 2 ^ n
  | 0 => rfl
  | n + 1 => by
    have : ∀ l : List (List Bool), (l.flatMap fun x => [x ++ [false], x ++ [true]]).length = 2 * l.length := fun l => by
      induction l with
      | nil => rfl
      | cons x r ih => rw [List.flatMap_cons, List.length_append, ih]; show 2 + _ = 2 * (r.length + 1); omega
    rw [wds, this, wds_len n, Nat.pow_succ]
    omega
theorem wds_mem : ∀ (n : Nat) (x : List Bool), x ∈ wds n ↔ x.length = n
  | 0, x => by rw [wds, List.mem_singleton, List.length_eq_zero_iff]
  | n + 1, x => by
    rw [wds, List.mem_flatMap]
    constructor
    · rintro ⟨y, hy, hx⟩
      have := (wds_mem n y).mp hy
      rcases List.mem_cons.mp hx with rfl | hx
      · rw [List.length_append, this]; rfl
      · rw [List.mem_singleton.mp hx, List.length_append, this]; rfl
    · intro h
      have hne : x ≠ [] := by intro e; rw [e] at h; cases h
      refine ⟨x.dropLast, (wds_mem n _).mpr (by rw [List.length_dropLast]; omega), ?_⟩
      have e := (List.dropLast_concat_getLast hne)
      cases hb : x.getLast hne with
      | false => rw [hb] at e; exact List.mem_cons.mpr (.inl e.symm)
      | true => rw [hb] at e; exact List.mem_cons.mpr (.inr (List.mem_singleton.mpr e.symm))
end My

namespace My
/-! ### counts without noughts behind -/
def IsH (L : List Nat) (f : Nat → Nat) : Prop := (∀ k, L.getD k 0 = f k) ∧ ∀ h : L ≠ [], L.getLast h ≠ 0
theorem IsH.zero {L : List Nat} {f : Nat → Nat} (h : IsH L f) {k : Nat} (hk : L.length ≤ k) : f k = 0 := by
  rw [← h.1 k, List.getD_eq_getElem?_getD, List.getElem?_eq_none hk]
  rfl
theorem IsH.last {L : List Nat} {f : Nat → Nat} (h : IsH L f) (hn : 0 < L.length) : f (L.length - 1) ≠ 0 := by
  have hne : L ≠ [] := fun e => by rw [e] at hn; cases hn
  have := h.2 hne
  rw [← h.1, List.getD_eq_getElem?_getD, List.getElem?_eq_getElem (by omega)]
  rw [List.getLast_eq_getElem] at this
  exact this
theorem IsH.len_le {L M : List Nat} {f : Nat → Nat} (h : IsH L f) (k : IsH M f) : L.length ≤ M.length := by
  by_cases hn : 0 < L.length
  · by_cases hl : L.length ≤ M.length
    · exact hl
    · exact absurd (k.zero (k := L.length - 1) (by omega)) (h.last hn)
  · omega
theorem IsH.uniq {L M : List Nat} {f : Nat → Nat} (h : IsH L f) (k : IsH M f) : L = M := by
  have hl : L.length = M.length := Nat.le_antisymm (h.len_le k) (k.len_le h)
  refine List.ext_getElem hl fun i h1 h2 => ?_
  have e1 := h.1 i
  have e2 := k.1 i
  rw [List.getD_eq_getElem?_getD, List.getElem?_eq_getElem h1] at e1
  rw [List.getD_eq_getElem?_getD, List.getElem?_eq_getElem h2] at e2
  exact e1.trans e2.symm
theorem IsH.congr {L : List Nat} {f g : Nat → Nat} (h : IsH L f) (e : ∀ k, f k = g k) : IsH L g := ⟨fun k => (h.1 k).trans (e k), h.2⟩
theorem IsH.nil : IsH [] fun _ => 0 := ⟨fun k => by simp, fun h => absurd rfl h⟩
theorem IsH.nilI {L : List Nat} {f : Nat → Nat} (h : IsH L f) : L = [] ↔ ∀ k, f k = 0 := by
  constructor
  · intro e k
    exact h.zero (by rw [e]; exact Nat.zero_le _)
  · intro e
    exact h.uniq (IsH.nil.congr fun k => (e k).symm)
theorem isH_mk {L : List Nat} {f : Nat → Nat} (h1 : ∀ k, k < L.length → L.getD k 0 = f k) (h2 : ∀ k, L.length ≤ k → f k = 0) (h3 : 0 < L.length → f (L.length - 1) ≠ 0) : IsH L f := by
  refine ⟨fun k => ?_, fun hne => ?_⟩
  · by_cases hk : k < L.length
    · exact h1 k hk
    · rw [h2 k (by omega), List.getD_eq_getElem?_getD, List.getElem?_eq_none (by omega)]
      rfl
  · have hp : 0 < L.length := List.length_pos_iff.mpr hne
    have := h3 hp
    rw [← h1 _ (by omega), List.getD_eq_getElem?_getD, List.getElem?_eq_getElem (by omega)] at this
    rw [List.getLast_eq_getElem]
    exact this
theorem IsH.short {L : List Nat} {f : Nat → Nat} (h : IsH L f) {n : Nat} (hz : ∀ k, n ≤ k → f k = 0) : L.length ≤ n := by
  by_cases hp : L.length ≤ n
  · exact hp
  · exact absurd (hz (L.length - 1) (by omega)) (h.last (by omega))
/-- two lists summed -/
def sm (a b : List Nat) : List Nat := (List.range (max a.length b.length)).map fun i => a.getD i 0 + b.getD i 0
theorem sm_len (a b : List Nat) : (sm a b).length = max a.length b.length := by unfold sm; rw [List.length_map, List.length_range]
theorem IsH.sm {a b : List Nat} {f g : Nat → Nat} (h : IsH a f) (k : IsH b g) : IsH (sm a b) fun i => f i + g i := by
  refine isH_mk (fun i hi => ?_) (fun i hi => ?_) fun hp => ?_
  · rw [sm_len] at hi
    unfold My.sm
    rw [List.getD_eq_getElem?_getD, List.getElem?_map, List.getElem?_range hi]
    show a.getD i 0 + b.getD i 0 = _
    rw [h.1, k.1]
  · rw [sm_len] at hi
    rw [h.zero (k := i) (by omega), k.zero (k := i) (by omega)]
  · rw [sm_len] at hp ⊢
    by_cases hc : a.length ≤ b.length
    · rw [Nat.max_eq_right hc] at hp ⊢
      have := k.last hp
      omega
    · rw [Nat.max_eq_left (by omega)] at hp ⊢
      have := h.last hp
      omega
/-- one place on -/
def sh (e : Nat) (a : List Nat) : List Nat := if a = [] then [] else List.replicate e 0 ++ a
theorem IsH.sh {a : List Nat} {f : Nat → Nat} (h : IsH a f) (e : Nat) : IsH (sh e a) fun k => if e ≤ k then f (k - e) else 0 := by
  unfold My.sh
  by_cases hn : a = []
  · rw [if_pos hn]
    refine IsH.nil.congr fun k => ?_
    have := (h.nilI.mp hn) (k - e)
    split <;> simp [this]
  · rw [if_neg hn]
    have hl : 0 < a.length := List.length_pos_iff.mpr hn
    refine isH_mk (fun i hi => ?_) (fun i hi => ?_) fun hp => ?_
    · rw [List.length_append, List.length_replicate] at hi
      rw [List.getD_eq_getElem?_getD]
      by_cases hc : e ≤ i
      · rw [if_pos hc, List.getElem?_append_right (by rw [List.length_replicate]; exact hc), List.length_replicate, ← h.1, List.getD_eq_getElem?_getD]
      · rw [if_neg hc, List.getElem?_append_left (by rw [List.length_replicate]; omega), List.getElem?_replicate, if_pos (by omega)]
        rfl
    · rw [List.length_append, List.length_replicate] at hi
      rw [if_pos (by omega)]
      exact h.zero (by omega)
    · rw [List.length_append, List.length_replicate]
      have := h.last hl
      rw [if_pos (by omega), show e + a.length - 1 - e = a.length - 1 by omega]
      exact this
/-- one more at a place -/
def bm (a : List Nat) (g : Nat) : List Nat := (a ++ List.replicate (g + 1 - a.length) 0).set g ((a ++ List.replicate (g + 1 - a.length) 0).getD g 0 + 1)
theorem pad_get (a : List Nat) (n i : Nat) : (a ++ List.replicate n 0).getD i 0 = a.getD i 0 := by
  rw [List.getD_eq_getElem?_getD, List.getD_eq_getElem?_getD]
  by_cases h : i < a.length
  · rw [List.getElem?_append_left h]
  · rw [List.getElem?_append_right (by omega), List.getElem?_eq_none (l := a) (by omega), List.getElem?_replicate]
    split <;> rfl
theorem bm_len (a : List Nat) (g : Nat) : (bm a g).length = max a.length (g + 1) := by unfold bm; rw [List.length_set, List.length_append, List.length_replicate]; omega
theorem IsH.bm {a : List Nat} {f : Nat → Nat} (h : IsH a f) (g : Nat) : IsH (bm a g) fun k => f k + if k = g then 1 else 0 := by
  have key : ∀ i, i < max a.length (g + 1) → (My.bm a g).getD i 0 = f i + if i = g then 1 else 0 := fun i hi => by
    unfold My.bm
    rw [List.getD_eq_getElem?_getD, List.getElem?_set]
    by_cases hg : g = i
    · subst hg
      rw [if_pos rfl, if_pos (by rw [List.length_append, List.length_replicate]; omega), if_pos rfl, pad_get, h.1]
      rfl
    · rw [if_neg hg, if_neg (fun e => hg e.symm), ← List.getD_eq_getElem?_getD, pad_get, h.1]
      rfl
  refine isH_mk (fun i hi => key i (by rw [bm_len] at hi; exact hi)) (fun i hi => ?_) fun hp => ?_
  · rw [bm_len] at hi
    rw [h.zero (k := i) (by omega), if_neg (by omega)]
  · rw [bm_len] at hp ⊢
    by_cases hc : a.length ≤ g + 1
    · rw [Nat.max_eq_right hc, Nat.add_sub_cancel, if_pos rfl]
      omega
    · rw [Nat.max_eq_left (by omega)]
      have := h.last (by omega)
      omega
/-! ### words by state and growth -/
section
variable (A : List Bool) (z : Bool)
def prs (t : Nat) : List (Nat × Nat) := (wds t).map fun x => (stA A z x, grA A z x)
/-- where a pair goes by a bit -/
def goB (b : Bool) (p : Nat × Nat) : Nat × Nat := ((stepS A z p.1 b).1, p.2 + (stepS A z p.1 b).2)
end
variable {A : List Bool} {z : Bool}
theorem prs_succ (k : Keep A z) (t : Nat) : prs A z (t + 1) = (prs A z t).flatMap fun p => [goB A z false p, goB A z true p] := by
  unfold prs
  rw [wds, List.map_flatMap, List.flatMap_map]
  congr 1
  funext x
  obtain ⟨a1, a2⟩ := st_step k x false
  obtain ⟨b1, b2⟩ := st_step k x true
  show [(stA A z (x ++ [false]), grA A z (x ++ [false])), (stA A z (x ++ [true]), grA A z (x ++ [true]))] = _
  rw [a1, a2, b1, b2]
  rfl
theorem prs_lt (k : Keep A z) (t : Nat) : ∀ p ∈ prs A z t, p.1 < A.length := fun p hp => by
  obtain ⟨x, _, rfl⟩ := List.mem_map.mp hp
  exact st_lt k x
/-- how many have a state and a growth -/
def cS (P : List (Nat × Nat)) (i k : Nat) : Nat := P.countP fun p => decide (p.1 = i ∧ p.2 = k)
/-- of those with states below n: how many go by the bit to s and k -/
def cB (A : List Bool) (z : Bool) (b : Bool) (P : List (Nat × Nat)) (n s k : Nat) : Nat := P.countP fun p => decide (p.1 < n ∧ (goB A z b p).1 = s ∧ (goB A z b p).2 = k)
theorem cB_zero (b : Bool) (P : List (Nat × Nat)) (s k : Nat) : cB A z b P 0 s k = 0 := by
  unfold cB
  rw [List.countP_eq_zero]
  intro p _ h
  exact absurd (of_decide_eq_true h).1 (Nat.not_lt_zero _)
theorem countP_add {α : Type} (p q r : α → Bool) (h : ∀ x, (p x).toNat = (q x).toNat + (r x).toNat) : ∀ l : List α, l.countP p = l.countP q + l.countP r
  | [] => rfl
  | x :: l => by
    rw [List.countP_cons, List.countP_cons, List.countP_cons, countP_add p q r h l]
    have := h x
    cases hp : p x <;> cases hq : q x <;> cases hr : r x <;> simp [hp, hq, hr] at this ⊢ <;> omega
theorem cB_succ (b : Bool) (P : List (Nat × Nat)) (n s k : Nat) :
    cB A z b P (n + 1) s k = cB A z b P n s k + if (stepS A z n b).1 = s then (if (stepS A z n b).2 ≤ k then cS P n (k - (stepS A z n b).2) else 0) else 0 := by
  have e : (if (stepS A z n b).1 = s then (if (stepS A z n b).2 ≤ k then cS P n (k - (stepS A z n b).2) else 0) else 0) = P.countP fun p => decide (p.1 = n ∧ (goB A z b p).1 = s ∧ (goB A z b p).2 = k) := by
    by_cases h1 : (stepS A z n b).1 = s
    · rw [if_pos h1]
      by_cases h2 : (stepS A z n b).2 ≤ k
      · rw [if_pos h2]
        unfold cS
        congr 1
        funext p
        congr 1
        apply propext
        unfold goB
        constructor
        · rintro ⟨rfl, h⟩
          exact ⟨rfl, h1, by show _ + _ = _; omega⟩
        · rintro ⟨rfl, _, h⟩
          have h' : p.2 + (stepS A z p.1 b).2 = k := h
          exact ⟨rfl, by omega⟩
      · rw [if_neg h2]
        symm
        rw [List.countP_eq_zero]
        intro p _ h
        obtain ⟨rfl, _, h'⟩ := of_decide_eq_true h
        have h'' : p.2 + (stepS A z p.1 b).2 = k := h'
        omega
    · rw [if_neg h1]
      symm
      rw [List.countP_eq_zero]
      intro p _ h
      obtain ⟨rfl, h', _⟩ := of_decide_eq_true h
      exact h1 h'
  rw [e]
  unfold cB
  refine countP_add _ _ _ (fun p => ?_) P
  by_cases a : p.1 < n
  · have c1 : p.1 < n + 1 := by omega
    have c2 : p.1 ≠ n := by omega
    simp [a, c1, c2]
  · by_cases c : p.1 = n
    · subst c
      simp
    · have c1 : ¬ p.1 < n + 1 := by omega
      simp [a, c, c1]
theorem cS_succ (k : Keep A z) (t s g : Nat) : cS (prs A z (t + 1)) s g = cB A z false (prs A z t) A.length s g + cB A z true (prs A z t) A.length s g := by
  rw [prs_succ k]
  have hp := prs_lt k t
  unfold cS cB
  generalize prs A z t = P at *
  induction P with
  | nil => rfl
  | cons p r ih =>
    rw [List.flatMap_cons, List.countP_append, List.countP_cons, List.countP_cons (l := r), List.countP_cons (l := r), ih fun q hq => hp q (List.mem_cons_of_mem _ hq), List.countP_singleton]
    have := hp p List.mem_cons_self
    simp only [this, true_and]
    omega
/-- all of them -/
theorem cS_all (P : List (Nat × Nat)) (k : Nat) : ∀ n, P.countP (fun p => decide (p.1 < n + 1 ∧ p.2 = k)) = P.countP (fun p => decide (p.1 < n ∧ p.2 = k)) + cS P n k := fun n => by
  unfold cS
  refine countP_add _ _ _ (fun p => ?_) P
  by_cases a : p.1 < n
  · have c1 : p.1 < n + 1 := by omega
    have c2 : p.1 ≠ n := by omega
    simp [a, c1, c2]
  · by_cases c : p.1 = n
    · subst c
      simp
    · have c1 : ¬ p.1 < n + 1 := by omega
      simp [a, c, c1]
/-- how many rows of a length grow by k -/
def gC (A : List Bool) (z : Bool) (t k : Nat) : Nat := (wds t).countP fun x => decide (grA A z x = k)
theorem gC_all (k : Keep A z) (t g : Nat) : (prs A z t).countP (fun p => decide (p.1 < A.length ∧ p.2 = g)) = gC A z t g := by
  unfold gC
  rw [show (prs A z t).countP (fun p => decide (p.1 < A.length ∧ p.2 = g)) = (wds t).countP ((fun p => decide (p.1 < A.length ∧ p.2 = g)) ∘ fun x => (stA A z x, grA A z x)) from List.countP_map]
  congr 1
  funext x
  have := st_lt k x
  simp [this]
end My

namespace My
/-! ### growth summed over all rows of a length -/
def wS (P : List (Nat × Nat)) (f : Nat × Nat → Nat) : Nat := (P.map f).sum
theorem wS_add {P : List (Nat × Nat)} {f g h : Nat × Nat → Nat} (e : ∀ p, f p = g p + h p) : wS P f = wS P g + wS P h := by
  unfold wS
  induction P with
  | nil => rfl
  | cons p r ih => rw [List.map_cons, List.map_cons, List.map_cons, List.sum_cons, List.sum_cons, List.sum_cons, ih, e p]; omega
theorem wS_congr {P : List (Nat × Nat)} {f g : Nat × Nat → Nat} (e : ∀ p ∈ P, f p = g p) : wS P f = wS P g := by
  unfold wS
  rw [List.map_congr_left e]
theorem wS_zero (P : List (Nat × Nat)) : wS P (fun _ => 0) = 0 := by
  unfold wS
  induction P with
  | nil => rfl
  | cons p r ih => rw [List.map_cons, List.sum_cons, ih]
theorem wS_mul (P : List (Nat × Nat)) (c : Nat) (f : Nat × Nat → Nat) : wS P (fun p => c * f p) = c * wS P f := by
  unfold wS
  induction P with
  | nil => simp
  | cons p r ih => rw [List.map_cons, List.map_cons, List.sum_cons, List.sum_cons, ih, Nat.mul_add]
section
variable (A : List Bool) (z : Bool)
def cN (P : List (Nat × Nat)) (s : Nat) : Nat := wS P fun p => if p.1 = s then 1 else 0
def sN (P : List (Nat × Nat)) (s : Nat) : Nat := wS P fun p => if p.1 = s then p.2 else 0
def cNb (b : Bool) (P : List (Nat × Nat)) (n s : Nat) : Nat := wS P fun p => if p.1 < n ∧ (stepS A z p.1 b).1 = s then 1 else 0
def sNb (b : Bool) (P : List (Nat × Nat)) (n s : Nat) : Nat := wS P fun p => if p.1 < n ∧ (stepS A z p.1 b).1 = s then p.2 + (stepS A z p.1 b).2 else 0
end
variable {A : List Bool} {z : Bool}
theorem cNb_zero (b : Bool) (P : List (Nat × Nat)) (s : Nat) : cNb A z b P 0 s = 0 := by
  unfold cNb
  rw [wS_congr (g := fun _ => 0) fun p _ => if_neg fun h => Nat.not_lt_zero _ h.1, wS_zero]
theorem sNb_zero (b : Bool) (P : List (Nat × Nat)) (s : Nat) : sNb A z b P 0 s = 0 := by
  unfold sNb
  rw [wS_congr (g := fun _ => 0) fun p _ => if_neg fun h => Nat.not_lt_zero _ h.1, wS_zero]
theorem cNb_succ (b : Bool) (P : List (Nat × Nat)) (n s : Nat) : cNb A z b P (n + 1) s = cNb A z b P n s + if (stepS A z n b).1 = s then cN P n else 0 := by
  unfold cNb cN
  by_cases h : (stepS A z n b).1 = s
  · rw [if_pos h]
    refine wS_add fun p => ?_
    by_cases c : p.1 = n
    · rw [c, if_pos ⟨by omega, h⟩, if_neg (by omega), if_pos rfl]
    · rw [if_neg c]
      by_cases d : p.1 < n ∧ (stepS A z p.1 b).1 = s
      · rw [if_pos d, if_pos ⟨by omega, d.2⟩]
      · rw [if_neg d, if_neg fun x => d ⟨by omega, x.2⟩]
  · rw [if_neg h, Nat.add_zero]
    refine wS_congr fun p _ => ?_
    by_cases d : p.1 < n ∧ (stepS A z p.1 b).1 = s
    · rw [if_pos d, if_pos ⟨by omega, d.2⟩]
    · rw [if_neg d, if_neg]
      rintro ⟨x1, x2⟩
      by_cases c : p.1 = n
      · rw [c] at x2; exact h x2
      · exact d ⟨by omega, x2⟩
theorem sNb_succ (b : Bool) (P : List (Nat × Nat)) (n s : Nat) : sNb A z b P (n + 1) s = sNb A z b P n s + if (stepS A z n b).1 = s then sN P n + (stepS A z n b).2 * cN P n else 0 := by
  unfold sNb sN cN
  by_cases h : (stepS A z n b).1 = s
  · rw [if_pos h, ← wS_mul, ← wS_add (P := P) (f := fun p => (if p.1 = n then p.2 else 0) + (stepS A z n b).2 * (if p.1 = n then 1 else 0)) fun p => rfl]
    refine wS_add fun p => ?_
    by_cases c : p.1 = n
    · rw [c, if_pos ⟨by omega, h⟩, if_neg (by omega), if_pos rfl, if_pos rfl]
      omega
    · rw [if_neg c, if_neg c]
      by_cases d : p.1 < n ∧ (stepS A z p.1 b).1 = s
      · rw [if_pos d, if_pos ⟨by omega, d.2⟩]
        omega
      · rw [if_neg d, if_neg fun x => d ⟨by omega, x.2⟩]
        omega
  · rw [if_neg h, Nat.add_zero]
    refine wS_congr fun p _ => ?_
    by_cases d : p.1 < n ∧ (stepS A z p.1 b).1 = s
    · rw [if_pos d, if_pos ⟨by omega, d.2⟩]
    · rw [if_neg d, if_neg]
      rintro ⟨x1, x2⟩
      by_cases c : p.1 = n
      · rw [c] at x2; exact h x2
      · exact d ⟨by omega, x2⟩
theorem wS_flat (P : List (Nat × Nat)) (g h : Nat × Nat → Nat × Nat) (f : Nat × Nat → Nat) : wS (P.flatMap fun p => [g p, h p]) f = wS P (fun p => f (g p)) + wS P (fun p => f (h p)) := by
  unfold wS
  induction P with
  | nil => rfl
  | cons p r ih =>
    simp only [List.flatMap_cons, List.map_append, List.sum_append, List.map_cons, List.sum_cons, List.map_nil, List.sum_nil] at ih ⊢
    omega
theorem cN_succ (k : Keep A z) (t s : Nat) : cN (prs A z (t + 1)) s = cNb A z false (prs A z t) A.length s + cNb A z true (prs A z t) A.length s := by
  have hp := prs_lt k t
  rw [prs_succ k]
  unfold cN cNb
  rw [wS_flat]
  congr 1
  · refine wS_congr fun p h => ?_
    have h1 := hp p h
    by_cases c : (stepS A z p.1 false).1 = s
    · exact (if_pos c).trans (if_pos ⟨h1, c⟩).symm
    · exact (if_neg c).trans (if_neg fun x => c x.2).symm
  · refine wS_congr fun p h => ?_
    have h1 := hp p h
    by_cases c : (stepS A z p.1 true).1 = s
    · exact (if_pos c).trans (if_pos ⟨h1, c⟩).symm
    · exact (if_neg c).trans (if_neg fun x => c x.2).symm
theorem sN_succ (k : Keep A z) (t s : Nat) : sN (prs A z (t + 1)) s = sNb A z false (prs A z t) A.length s + sNb A z true (prs A z t) A.length s := by
  have hp := prs_lt k t
  rw [prs_succ k]
  unfold sN sNb
  rw [wS_flat]
  congr 1
  · refine wS_congr fun p h => ?_
    have h1 := hp p h
    by_cases c : (stepS A z p.1 false).1 = s
    · exact (if_pos c).trans (if_pos ⟨h1, c⟩).symm
    · exact (if_neg c).trans (if_neg fun x => c x.2).symm
  · refine wS_congr fun p h => ?_
    have h1 := hp p h
    by_cases c : (stepS A z p.1 true).1 = s
    · exact (if_pos c).trans (if_pos ⟨h1, c⟩).symm
    · exact (if_neg c).trans (if_neg fun x => c x.2).symm
/-- all growth of all rows of a length -/
def sG (A : List Bool) (z : Bool) (t : Nat) : Nat := ((wds t).map (grA A z)).sum
theorem sN_below (P : List (Nat × Nat)) : ∀ n, ((List.range n).map (sN P)).sum = wS P fun p => if p.1 < n then p.2 else 0
  | 0 => by rw [wS_congr (g := fun _ => 0) fun p _ => if_neg (Nat.not_lt_zero _), wS_zero]; rfl
  | n + 1 => by
    rw [List.range_succ, List.map_append, List.sum_append, sN_below P n]
    symm
    show _ = _ + (sN P n + 0)
    rw [Nat.add_zero]
    unfold sN
    refine wS_add fun p => ?_
    by_cases c : p.1 = n
    · rw [if_pos (by omega), if_neg (by omega), if_pos c]
      omega
    · by_cases d : p.1 < n
      · rw [if_pos (by omega), if_pos d, if_neg c]; rfl
      · rw [if_neg (by omega), if_neg d, if_neg c]
theorem sG_all (k : Keep A z) (t : Nat) : ((List.range A.length).map (sN (prs A z t))).sum = sG A z t := by
  have hp := prs_lt k t
  rw [sN_below, wS_congr (g := fun p => p.2) fun p h => if_pos (hp p h)]
  unfold wS sG prs
  rw [List.map_map]
  rfl
end My

namespace My
/-! ### the mark with all bits turned -/
def cm (A : List Bool) : List Bool := A.map (!·)
theorem cm_app (a b : List Bool) : cm (a ++ b) = cm a ++ cm b := List.map_append
theorem cm_len (a : List Bool) : (cm a).length = a.length := List.length_map _
theorem cm_cm (a : List Bool) : cm (cm a) = a := by
  unfold cm
  rw [List.map_map]
  conv => rhs; rw [← List.map_id a]
  congr 1
  funext b
  cases b <;> rfl
theorem cm_suf {a w : List Bool} : cm a <:+ cm w ↔ a <:+ w := by
  have go : ∀ {a w : List Bool}, a <:+ w → cm a <:+ cm w := fun {a w} ⟨t, e⟩ => ⟨cm t, by rw [← cm_app, e]⟩
  refine ⟨fun h => ?_, go⟩
  have := go h
  rw [cm_cm, cm_cm] at this
  exact this
theorem stG_cm (A : List Bool) (z : Bool) (t x : List Bool) : stG (cm A) (!z) (cm t) (cm x) = cm (stG A z t x) := by
  induction x generalizing t with
  | nil => rfl
  | cons b r ih =>
    show stG (cm A) (!z) (cm t) ((!b) :: cm r) = _
    rw [stG_cons, stG_cons]
    have e : cm t ++ [!b] = cm (t ++ [b]) := (cm_app t [b]).symm
    rw [e]
    by_cases h : A <:+ t ++ [b]
    · rw [if_pos h, if_pos (cm_suf.mpr h), ← ih]
      congr 1
      rw [cm_app (t ++ [b]) [!z]]
      rfl
    · rw [if_neg h, if_neg fun k => h (cm_suf.mp k), ← ih]
theorem gr_cm (A : List Bool) (z : Bool) (x : List Bool) : grA (cm A) (!z) (cm x) = grA A z x := by
  unfold grA stuff
  have := stG_cm A z [] x
  rw [show cm [] = [] from rfl] at this
  rw [this, cm_len, cm_len]
theorem keep_cm {A : List Bool} {z : Bool} (k : Keep A z) : Keep (cm A) (!z) := by
  refine ⟨fun e => k.1 ?_, fun e => k.2 ?_⟩
  · have := congrArg cm e
    rw [cm_cm] at this
    exact this
  · have := congrArg cm e
    rw [cm_cm, cm_len] at this
    rw [this]
    unfold cm
    rw [List.map_replicate, List.length_replicate]
    simp
/-- sums over all words of a length -/
def sumW (t : Nat) (f : List Bool → Nat) : Nat := ((wds t).map f).sum
theorem sumW_succ (t : Nat) (f : List Bool → Nat) : sumW (t + 1) f = sumW t fun x => f (x ++ [false]) + f (x ++ [true]) := by
  unfold sumW
  rw [wds]
  generalize wds t = l
  induction l with
  | nil => rfl
  | cons x r ih =>
    simp only [List.flatMap_cons, List.map_append, List.sum_append, List.map_cons, List.sum_cons, List.map_nil, List.sum_nil] at ih ⊢
    omega
theorem sumW_cm : ∀ (t : Nat) (f : List Bool → Nat), sumW t (fun x => f (cm x)) = sumW t f
  | 0, f => rfl
  | t + 1, f => by
    rw [sumW_succ, sumW_succ]
    have h := sumW_cm t fun x => f (x ++ [true]) + f (x ++ [false])
    have e : (fun x => f (cm (x ++ [false])) + f (cm (x ++ [true]))) = fun x => f (cm x ++ [true]) + f (cm x ++ [false]) := by
      funext x
      rw [cm_app, cm_app]
      rfl
    rw [e, h]
    congr 1
    funext x
    exact Nat.add_comm _ _
theorem countP_sum {α : Type} (p : α → Bool) : ∀ l : List α, l.countP p = (l.map fun x => if p x = true then 1 else 0).sum
  | [] => rfl
  | x :: l => by
    rw [List.countP_cons, countP_sum p l, List.map_cons, List.sum_cons]
    omega
theorem gC_cm (A : List Bool) (z : Bool) (t k : Nat) : gC (cm A) (!z) t k = gC A z t k := by
  unfold gC
  rw [countP_sum, countP_sum]
  have h := sumW_cm t fun x => if decide (grA (cm A) (!z) x = k) = true then 1 else 0
  unfold sumW at h
  rw [← h]
  congr 2
  funext x
  rw [gr_cm]
theorem sG_cm (A : List Bool) (z : Bool) (t : Nat) : sG (cm A) (!z) t = sG A z t := by
  have h := sumW_cm t (grA (cm A) (!z))
  unfold sumW at h
  unfold sG
  rw [← h]
  congr 2
  funext x
  exact gr_cm A z x
/-- the last of those that fit -/
theorem filter_last {p : Nat → Bool} {n b : Nat} (hb : b < n) (h1 : p b = true) (h2 : ∀ i, b < i → i < n → p i = false) : ∃ pre, (List.range n).filter p = pre ++ [b] := by
  refine ⟨(List.range b).filter p, ?_⟩
  have e : List.range n = List.range (b + 1) ++ (List.range (n - (b + 1))).map (b + 1 + ·) := by
    rw [← List.range_add]
    congr 1
    omega
  have e2 : ((List.range (n - (b + 1))).map (b + 1 + ·)).filter p = [] := by
    rw [List.filter_eq_nil_iff]
    intro i hi
    obtain ⟨j, hj, rfl⟩ := List.mem_map.mp hi
    have := List.mem_range.mp hj
    rw [h2 _ (by omega) (by omega)]
    decide
  rw [e, List.filter_append, e2, List.append_nil, List.range_succ, List.filter_append, List.filter_cons, if_pos h1, List.filter_nil]
theorem over_last (A : List Bool) (z : Bool) : ∃ pre, (List.range (A.length + 1)).filter (fun w => decide ((A ++ [z]).take w <:+ A ++ [!z])) = pre ++ [beh A z] := by
  have hm : ¬ A ++ [z] <:+ A ++ [!z] := fun h => by
    have := (snoc_suf.mp h).2
    cases z <;> cases this
  obtain ⟨h1, _⟩ := lb_A hm
  refine filter_last (by unfold beh; omega) (decide_eq_true (lb_suf _ _)) fun i hi hn => decide_eq_false fun h => ?_
  have := lb_max (m := A ++ [z]) (n := i) (by rw [List.length_append, List.length_singleton]; omega) h
  unfold beh at hi
  omega
end My

namespace My
/-! ### words without a mark -/
section
variable (m : List Bool)
/-- where a bit leads from a state -/
def mv (s : Nat) (b : Bool) : Nat := lb m (m.take s ++ [b])
/-- how many words of a length are without the mark -/
def aW (t : Nat) : Nat := (wds t).countP fun x => decide (¬ m <:+: x)
/-- the states behind them -/
def sts (t : Nat) : List Nat := ((wds t).filter fun x => decide (¬ m <:+: x)).map (lb m)
variable {m}
theorem no_lt {x : List Bool} (h : ¬ m <:+: x) : lb m x < m.length := by
  have h1 := lb_lem m x
  have h2 := lb_suf m x
  refine Nat.lt_of_le_of_ne h1 fun e => h ?_
  rw [e, List.take_length] at h2
  exact h2.isInfix
theorem suf_lb {x : List Bool} : m <:+ x ↔ lb m x = m.length := by
  constructor
  · intro h
    have h1 := lb_lem m x
    have := lb_max (m := m) (w := x) (n := m.length) (Nat.le_refl _) (by rw [List.take_length]; exact h)
    omega
  · intro e
    have h2 := lb_suf m x
    rw [e, List.take_length] at h2
    exact h2
theorem no_snoc {x : List Bool} {b : Bool} : ¬ m <:+: x ++ [b] ↔ ¬ m <:+: x ∧ mv m (lb m x) b < m.length := by
  have e : lb m (x ++ [b]) = mv m (lb m x) b := lb_step m x b
  have h0 := lb_lem m (m.take (lb m x) ++ [b])
  rw [List.infix_concat_iff, suf_lb, e]
  unfold mv
  constructor
  · intro h
    exact ⟨fun c => h (.inr c), by have := fun c => h (.inl c); omega⟩
  · rintro ⟨h1, h2⟩ (h | h)
    · omega
    · exact h1 h
theorem sts_lt (t : Nat) : ∀ s ∈ sts m t, s < m.length := fun s hs => by
  unfold sts at hs
  obtain ⟨x, hx, rfl⟩ := List.mem_map.mp hs
  exact no_lt (of_decide_eq_true (List.mem_filter.mp hx).2)
theorem sts_len (t : Nat) : (sts m t).length = aW m t := by
  unfold sts aW
  rw [List.length_map, List.countP_eq_length_filter]
theorem sts_zero (h : 0 < m.length) : sts m 0 = [0] := by
  unfold sts wds
  have : ¬ m <:+: [] := fun c => by
    rw [List.infix_nil] at c
    rw [c] at h
    cases h
  rw [List.filter_cons, if_pos (decide_eq_true this)]
  have : lb m [] = 0 := Nat.le_zero.mp (lb_le m [])
  rw [List.filter_nil, List.map_cons, this]
  rfl
/-- the two states behind, without the mark -/
def two (m : List Bool) (s : Nat) : List Nat := [mv m s false, mv m s true].filter fun s => decide (s < m.length)
theorem sts_succ (t : Nat) : sts m (t + 1) = (sts m t).flatMap (two m) := by
  unfold sts
  rw [wds]
  generalize wds t = l
  induction l with
  | nil => rfl
  | cons x r ih =>
    rw [List.flatMap_cons, List.filter_append, List.map_append, ih, show (x :: r).filter (fun x => decide (¬ m <:+: x)) = if decide (¬ m <:+: x) = true then x :: r.filter (fun x => decide (¬ m <:+: x)) else r.filter (fun x => decide (¬ m <:+: x)) from List.filter_cons]
    have ef : lb m (x ++ [false]) = mv m (lb m x) false := lb_step m x false
    have et : lb m (x ++ [true]) = mv m (lb m x) true := lb_step m x true
    by_cases c : ¬ m <:+: x
    · rw [if_pos (decide_eq_true c), List.map_cons, List.flatMap_cons]
      congr 1
      unfold two
      have key : ∀ b, decide (¬ m <:+: x ++ [b]) = decide (mv m (lb m x) b < m.length) := fun b => by
        by_cases h : mv m (lb m x) b < m.length
        · rw [decide_eq_true h, decide_eq_true (no_snoc.mpr ⟨c, h⟩)]
        · rw [decide_eq_false h, decide_eq_false fun k => h (no_snoc.mp k).2]
      rw [List.filter_cons, List.filter_cons, List.filter_nil, List.filter_cons, List.filter_cons, List.filter_nil, key false, key true]
      by_cases h1 : decide (mv m (lb m x) false < m.length) = true <;> by_cases h2 : decide (mv m (lb m x) true < m.length) = true <;> simp only [h1, h2, if_true, if_false, List.map_cons, List.map_nil, ef, et, Bool.false_eq_true]
    · rw [if_neg (by rw [decide_eq_false c]; decide)]
      have : ([x ++ [false], x ++ [true]].filter fun x => decide (¬ m <:+: x)) = [] := by
        rw [List.filter_eq_nil_iff]
        intro y hy h
        have h := of_decide_eq_true h
        rcases List.mem_cons.mp hy with rfl | hy
        · exact c (no_snoc.mp h).1
        · rw [List.mem_singleton.mp hy] at h
          exact c (no_snoc.mp h).1
      rw [this]
      rfl
end
/-- how often a state stands in a list of states -/
def cnt (S : List Nat) (s : Nat) : Nat := S.countP fun x => decide (x = s)
/-- those led by a bit from states below n to s -/
def cL (m : List Bool) (b : Bool) (S : List Nat) (n s : Nat) : Nat := S.countP fun x => decide (x < n ∧ mv m x b = s)
theorem cL_zero (m : List Bool) (b : Bool) (S : List Nat) (s : Nat) : cL m b S 0 s = 0 := by
  unfold cL
  rw [List.countP_eq_zero]
  intro x _ h
  exact absurd (of_decide_eq_true h).1 (Nat.not_lt_zero _)
theorem cL_succ (m : List Bool) (b : Bool) (S : List Nat) (n s : Nat) : cL m b S (n + 1) s = cL m b S n s + if mv m n b = s then cnt S n else 0 := by
  unfold cL cnt
  by_cases c : mv m n b = s
  · rw [if_pos c]
    refine countP_add _ _ _ (fun x => ?_) S
    by_cases h : x < n
    · rw [decide_eq_false (show ¬ x = n by omega)]
      by_cases k : mv m x b = s
      · rw [decide_eq_true ⟨by omega, k⟩, decide_eq_true ⟨h, k⟩]; rfl
      · rw [decide_eq_false fun z => k z.2, decide_eq_false fun z => k z.2]; rfl
    · rw [decide_eq_false (show ¬ (x < n ∧ mv m x b = s) from fun z => h z.1)]
      by_cases k : x = n
      · subst k
        rw [decide_eq_true ⟨Nat.lt_succ_self _, c⟩, decide_eq_true rfl]
        rfl
      · rw [decide_eq_false (show ¬ (x < n + 1 ∧ mv m x b = s) from fun z => by omega), decide_eq_false k]
        rfl
  · rw [if_neg c, Nat.add_zero]
    refine List.countP_congr fun x _ => ?_
    rw [decide_eq_true_iff, decide_eq_true_iff]
    constructor
    · rintro ⟨h1, h2⟩
      refine ⟨Nat.lt_of_le_of_ne (by omega) fun e => c (by rw [← e]; exact h2), h2⟩
    · rintro ⟨h1, h2⟩
      exact ⟨by omega, h2⟩
theorem cnt_succ {m : List Bool} (t : Nat) {s : Nat} (hs : s < m.length) : cnt (sts m (t + 1)) s = cL m false (sts m t) m.length s + cL m true (sts m t) m.length s := by
  rw [sts_succ]
  have h := sts_lt (m := m) t
  generalize sts m t = S at *
  induction S with
  | nil => rfl
  | cons x r ih =>
    have hx := h x List.mem_cons_self
    have ih := ih fun y hy => h y (List.mem_cons_of_mem _ hy)
    have e1 : cnt ((x :: r).flatMap (two m)) s = cnt (two m x) s + cnt (r.flatMap (two m)) s := by
      unfold cnt
      rw [List.flatMap_cons, List.countP_append]
    have e2 : ∀ b, cL m b (x :: r) m.length s = cL m b r m.length s + if mv m x b = s then 1 else 0 := fun b => by
      unfold cL
      rw [List.countP_cons]
      congr 1
      by_cases c : mv m x b = s
      · rw [if_pos c, if_pos (decide_eq_true ⟨hx, c⟩)]
      · rw [if_neg c, if_neg (by rw [decide_eq_false fun z => c z.2]; decide)]
    have e3 : cnt (two m x) s = (if mv m x false = s then 1 else 0) + if mv m x true = s then 1 else 0 := by
      unfold cnt two
      have key : ∀ b (l : List Nat), ((mv m x b :: l).filter fun s => decide (s < m.length)).countP (fun x => decide (x = s)) = (if mv m x b = s then 1 else 0) + ((l.filter fun s => decide (s < m.length)).countP fun x => decide (x = s)) := fun b l => by
        rw [List.filter_cons]
        by_cases c : mv m x b < m.length
        · rw [if_pos (decide_eq_true c), List.countP_cons]
          by_cases k : mv m x b = s
          · rw [if_pos k, if_pos (decide_eq_true k), Nat.add_comm]
          · rw [if_neg k, if_neg (by rw [decide_eq_false k]; decide), Nat.add_comm]
        · rw [if_neg (by rw [decide_eq_false c]; decide), if_neg (by omega), Nat.zero_add]
      rw [key, key]
      rfl
    rw [e1, e2, e2, e3, ih]
    omega
theorem cnt_sum (S : List Nat) : ∀ n, ((List.range n).map (cnt S)).sum = S.countP fun x => decide (x < n)
  | 0 => by
    rw [List.range_zero]
    symm
    exact List.countP_eq_zero.mpr fun x _ h => absurd (of_decide_eq_true h) (Nat.not_lt_zero _)
  | n + 1 => by
    rw [List.range_succ, List.map_append, List.sum_append, cnt_sum S n]
    show _ + (cnt S n + 0) = _
    unfold cnt
    rw [Nat.add_zero]
    symm
    refine countP_add _ _ _ (fun x => ?_) S
    by_cases h : x < n
    · rw [decide_eq_true h, decide_eq_true (show x < n + 1 by omega), decide_eq_false (show ¬ x = n by omega)]; rfl
    · by_cases k : x = n
      · rw [decide_eq_false h, decide_eq_true (show x < n + 1 by omega), decide_eq_true k]; rfl
      · rw [decide_eq_false h, decide_eq_false (show ¬ x < n + 1 by omega), decide_eq_false k]; rfl
theorem cnt_all (m : List Bool) (t : Nat) : ((List.range m.length).map (cnt (sts m t))).sum = aW m t := by
  rw [cnt_sum, ← sts_len]
  exact List.countP_eq_length.mpr fun x hx => decide_eq_true (sts_lt t x hx)
end My

namespace My
/-! ### words without a mark: turned marks, short and long words -/
theorem aW_sum (m : List Bool) (t : Nat) : aW m t = sumW t fun x => if decide (¬ m <:+: x) = true then 1 else 0 := countP_sum _ _
theorem sumW_cons : ∀ (t : Nat) (f : List Bool → Nat), sumW (t + 1) f = sumW t fun x => f (false :: x) + f (true :: x)
  | 0, f => by
    unfold sumW wds
    rfl
  | t + 1, f => by
    rw [sumW_succ, sumW_cons t fun x => f (x ++ [false]) + f (x ++ [true]), sumW_succ t fun x => f (false :: x) + f (true :: x)]
    congr 1
    funext x
    simp only [List.cons_append]
    omega
theorem sumW_rev : ∀ (t : Nat) (f : List Bool → Nat), sumW t (fun x => f x.reverse) = sumW t f
  | 0, f => rfl
  | t + 1, f => by
    rw [sumW_succ, sumW_cons, ← sumW_rev t fun x => f (false :: x) + f (true :: x)]
    congr 1
    funext x
    rw [List.reverse_append, List.reverse_append]
    rfl
theorem sumW_congr (t : Nat) {f g : List Bool → Nat} (h : ∀ x, f x = g x) : sumW t f = sumW t g := by rw [funext h]
theorem cm_infix {a w : List Bool} : cm a <:+: cm w ↔ a <:+: w := by
  have key : ∀ {a w : List Bool}, a <:+: w → cm a <:+: cm w := fun {a w} ⟨s, t, e⟩ => ⟨cm s, cm t, by rw [← e, cm_app, cm_app]⟩
  exact ⟨fun h => by have := key h; rwa [cm_cm, cm_cm] at this, key⟩
theorem aW_rev (m : List Bool) (t : Nat) : aW m.reverse t = aW m t := by
  rw [aW_sum, aW_sum, ← sumW_rev]
  refine sumW_congr t fun x => ?_
  have e : decide (¬ m.reverse <:+: x.reverse) = decide (¬ m <:+: x) := by rw [decide_eq_decide]; exact not_congr List.reverse_infix
  rw [e]
theorem aW_cm (m : List Bool) (t : Nat) : aW (cm m) t = aW m t := by
  rw [aW_sum, aW_sum, ← sumW_cm]
  refine sumW_congr t fun x => ?_
  have e : decide (¬ cm m <:+: cm x) = decide (¬ m <:+: x) := by rw [decide_eq_decide]; exact not_congr cm_infix
  rw [e]
theorem sumW_one (t : Nat) : sumW t (fun _ => 1) = 2 ^ t := by
  unfold sumW
  rw [← wds_len t]
  generalize wds t = l
  induction l with
  | nil => rfl
  | cons x r ih => rw [List.map_cons, List.sum_cons, ih, List.length_cons]; omega
theorem sumW_at : ∀ m : List Bool, sumW m.length (fun x => if x = m then 1 else 0) = 1
  | [] => rfl
  | b :: r => by
    rw [List.length_cons, sumW_cons]
    refine Eq.trans (sumW_congr _ fun x => ?_) (sumW_at r)
    cases b <;> simp
theorem sumW_add (t : Nat) (f g : List Bool → Nat) : sumW t (fun x => f x + g x) = sumW t f + sumW t g := by
  unfold sumW
  generalize wds t = l
  induction l with
  | nil => rfl
  | cons x r ih => rw [List.map_cons, List.sum_cons, ih, List.map_cons, List.sum_cons, List.map_cons, List.sum_cons]; omega
/-- of the mark's own length, all but the mark itself -/
theorem aW_own (m : List Bool) : aW m m.length + 1 = 2 ^ m.length := by
  rw [aW_sum, ← sumW_one m.length]
  conv => lhs; rhs; rw [← sumW_at m]
  rw [← sumW_add]
  unfold sumW
  congr 1
  refine List.map_congr_left fun x hx => ?_
  have lx := (wds_mem _ x).mp hx
  by_cases c : x = m
  · subst c
    rw [if_neg (by rw [decide_eq_false fun z => z (List.infix_refl _)]; decide), if_pos rfl]
  · rw [if_pos (decide_eq_true (show ¬ m <:+: x from fun h => c (h.eq_of_length lx.symm).symm)), if_neg c]
/-- shorter ones: all -/
theorem aW_short {m : List Bool} {t : Nat} (h : t < m.length) : aW m t = 2 ^ t := by
  rw [aW_sum, ← sumW_one t]
  unfold sumW
  congr 1
  refine List.map_congr_left fun x hx => ?_
  have lx := (wds_mem _ x).mp hx
  rw [if_pos (decide_eq_true (show ¬ m <:+: x from fun z => by have := z.length_le; omega))]
/-! ### borders -/
def isB (m : List Bool) (k : Nat) : Bool := decide (m.take k = m.drop (m.length - k))
def bord (m : List Bool) : List Nat := ((List.range (m.length - 1)).map (· + 1)).filter (isB m)
theorem starts_b (m : List Bool) {k : Nat} (h : k ≤ m.length) : decide (m.drop (m.length - k) <+: m) = isB m k := by
  unfold isB
  have hl : (m.drop (m.length - k)).length = k := by rw [List.length_drop]; omega
  by_cases c : m.take k = m.drop (m.length - k)
  · rw [decide_eq_true c, decide_eq_true]
    rw [← c]
    exact List.take_prefix _ _
  · rw [decide_eq_false c, decide_eq_false]
    intro p
    refine c ?_
    have := List.prefix_iff_eq_take.mp p
    rw [hl] at this
    exact this.symm
/-! ### how many are free -/
def frL : Nat → List Int
  | 0 => [1, 2]
  | n + 1 => frL n ++ [2 * (frL n).getD (n + 1) 0 - if (n + 2) % 2 = 0 then (frL n).getD ((n + 2) / 2) 0 else 0]
theorem frL_len : ∀ n, (frL n).length = n + 2
  | 0 => rfl
  | n + 1 => by rw [frL, List.length_append, frL_len n]; rfl
def fr (i : Nat) : Int := (frL i).getD i 0
theorem frL_at {i : Nat} : ∀ {n : Nat}, i ≤ n + 1 → (frL n).getD i 0 = fr i := by
  have step : ∀ n i, i ≤ n + 1 → (frL (n + 1)).getD i 0 = (frL n).getD i 0 := fun n i h => by
    rw [frL, List.getD_eq_getElem?_getD, List.getElem?_append_left (by rw [frL_len]; omega), ← List.getD_eq_getElem?_getD]
  have up : ∀ d n i, i ≤ n + 1 → (frL (n + d)).getD i 0 = (frL n).getD i 0 := fun d => by
    induction d with
    | zero => intro n i h; rfl
    | succ d ih => intro n i h; rw [← Nat.add_assoc, step _ _ (by omega), ih n i h]
  intro n h
  unfold fr
  by_cases c : i ≤ n
  · obtain ⟨d, rfl⟩ := Nat.le.dest c
    exact up d i i (by omega)
  · obtain rfl : i = n + 1 := by omega
    exact (up 1 n (n + 1) (by omega)).symm
theorem fr_step (n : Nat) : fr (n + 2) = 2 * fr (n + 1) - if (n + 2) % 2 = 0 then fr ((n + 2) / 2) else 0 := by
  have e : fr (n + 2) = (frL (n + 1)).getD (n + 2) 0 := (frL_at (by omega)).symm
  rw [e, frL, List.getD_eq_getElem?_getD, List.getElem?_append_right (by rw [frL_len]; exact Nat.le_refl _), frL_len, Nat.sub_self]
  show (2 * (frL n).getD (n + 1) 0 - if (n + 2) % 2 = 0 then (frL n).getD ((n + 2) / 2) 0 else 0) = _
  rw [frL_at (n := n) (by omega), frL_at (n := n) (by omega)]
theorem fr_odd {h : Nat} (k : 1 ≤ h) : fr (2 * h + 1) = 2 * fr (2 * h) := by
  obtain ⟨j, rfl⟩ : ∃ j, h = j + 1 := ⟨h - 1, by omega⟩
  have := fr_step (2 * j + 1)
  rw [if_neg (by omega)] at this
  rw [show 2 * (j + 1) + 1 = 2 * j + 1 + 2 by omega, this, Int.sub_zero]
  rfl
theorem fr_even {h : Nat} (k : 1 ≤ h) : fr (2 * h) = 2 * fr (2 * h - 1) - fr h := by
  obtain ⟨j, rfl⟩ : ∃ j, h = j + 1 := ⟨h - 1, by omega⟩
  have := fr_step (2 * j)
  rw [if_pos (by omega)] at this
  rw [show 2 * (j + 1) = 2 * j + 2 by omega, this]
  congr 1
  congr 1
  omega
/-- of few bits: as many as words without borders -/
theorem fr_small : ∀ n < 10, 2 ≤ n → fr n = (((wds n).filter fun x => decide (bord x = [])).length : Nat) := by decide +kernel
end My

namespace My
/-! ### words without short marks, counted; unlike marks told apart -/
def mvL (m : List Bool) : List (Nat × Nat) := (List.range m.length).map fun s => (mv m s false, mv m s true)
def nextC (L : Nat) (V : List (Nat × Nat)) (C : List Nat) : List Nat := (List.range L).map fun s' => ((V.zip C).map fun p => (if p.1.1 = s' then p.2 else 0) + (if p.1.2 = s' then p.2 else 0)).sum
def cntL (m : List Bool) (t : Nat) : List Nat := (List.range m.length).map (cnt (sts m t))
theorem cL_sum (m : List Bool) (S : List Nat) (s : Nat) : ∀ n, ((List.range n).map fun i => (if mv m i false = s then cnt S i else 0) + (if mv m i true = s then cnt S i else 0)).sum = cL m false S n s + cL m true S n s
  | 0 => by rw [cL_zero, cL_zero]; rfl
  | n + 1 => by
    rw [List.range_succ, List.map_append, List.sum_append, cL_sum m S s n, cL_succ, cL_succ]
    show _ + ((if mv m n false = s then cnt S n else 0) + (if mv m n true = s then cnt S n else 0) + 0) = _
    omega
theorem nextC_ok (m : List Bool) (t : Nat) : nextC m.length (mvL m) (cntL m t) = cntL m (t + 1) := by
  unfold nextC mvL cntL
  refine List.map_congr_left fun s hs => ?_
  rw [List.zip_map', List.map_map, cnt_succ t (List.mem_range.mp hs), ← cL_sum]
  rfl
theorem cntL_zero {m : List Bool} (h : 0 < m.length) : cntL m 0 = 1 :: List.replicate (m.length - 1) 0 := by
  unfold cntL
  rw [sts_zero h]
  refine List.ext_getElem (by simp; omega) fun i h1 h2 => ?_
  rw [List.getElem_map, List.getElem_range]
  cases i with
  | zero => rfl
  | succ i =>
    rw [List.getElem_cons_succ, List.getElem_replicate]
    rfl
theorem cntL_sum (m : List Bool) (t : Nat) : (cntL m t).sum = aW m t := cnt_all m t
def vecF (L : Nat) (V : List (Nat × Nat)) : Nat → List Nat → List Nat
  | 0, _ => []
  | n + 1, C => C.sum :: vecF L V n (nextC L V C)
theorem vecF_ok (m : List Bool) : ∀ n t, vecF m.length (mvL m) n (cntL m t) = (List.range n).map fun i => aW m (t + i)
  | 0, _ => rfl
  | n + 1, t => by
    rw [vecF, nextC_ok, vecF_ok m n, List.range_succ_eq_map, List.map_cons, List.map_map, cntL_sum]
    congr 1
    refine List.map_congr_left fun i _ => ?_
    show aW m (t + 1 + i) = aW m (t + (i + 1))
    congr 1
    omega
def vec12 (m : List Bool) : List Nat := vecF m.length (mvL m) 12 (1 :: List.replicate (m.length - 1) 0)
theorem vec12_ok {m : List Bool} (h : 0 < m.length) : vec12 m = (List.range 12).map (aW m) := by
  unfold vec12
  rw [← cntL_zero h, vecF_ok]
  refine List.map_congr_left fun i _ => ?_
  rw [Nat.zero_add]
theorem vec12_at {m : List Bool} (h : 0 < m.length) {n : Nat} (hn : n < 12) : (vec12 m)[n]? = some (aW m n) := by
  rw [vec12_ok h, List.getElem?_map, List.getElem?_range hn]
  rfl
def tabW : List ((Nat × List Nat) × List Nat) := [((2, [1]), [1, 2, 3, 5, 8, 13, 21, 34, 55, 89, 144, 233]),
  ((2, []), [1, 2, 3, 4, 5, 6, 7, 8, 9, 10, 11, 12]),
  ((3, [1, 2]), [1, 2, 4, 7, 13, 24, 44, 81, 149, 274, 504, 927]),
  ((3, []), [1, 2, 4, 7, 12, 20, 33, 54, 88, 143, 232, 376]),
  ((3, [1]), [1, 2, 4, 7, 12, 21, 37, 65, 114, 200, 351, 616]),
  ((4, [1, 2, 3]), [1, 2, 4, 8, 15, 29, 56, 108, 208, 401, 773, 1490]),
  ((4, []), [1, 2, 4, 8, 15, 28, 52, 96, 177, 326, 600, 1104]),
  ((4, [1]), [1, 2, 4, 8, 15, 28, 52, 97, 181, 338, 631, 1178]),
  ((4, [2]), [1, 2, 4, 8, 15, 28, 53, 100, 188, 354, 667, 1256]),
  ((5, [1, 2, 3, 4]), [1, 2, 4, 8, 16, 31, 61, 120, 236, 464, 912, 1793]),
  ((5, []), [1, 2, 4, 8, 16, 31, 60, 116, 224, 432, 833, 1606]),
  ((5, [1]), [1, 2, 4, 8, 16, 31, 60, 116, 224, 433, 837, 1618]),
  ((5, [1, 2]), [1, 2, 4, 8, 16, 31, 60, 116, 225, 437, 849, 1649]),
  ((5, [2]), [1, 2, 4, 8, 16, 31, 60, 116, 225, 436, 845, 1637]),
  ((5, [1, 3]), [1, 2, 4, 8, 16, 31, 60, 117, 228, 444, 865, 1685]),
  ((6, [1, 2, 3, 4, 5]), [1, 2, 4, 8, 16, 32, 63, 125, 248, 492, 976, 1936]),
  ((6, []), [1, 2, 4, 8, 16, 32, 63, 124, 244, 480, 944, 1856]),
  ((6, [1]), [1, 2, 4, 8, 16, 32, 63, 124, 244, 480, 944, 1857]),
  ((6, [1, 2]), [1, 2, 4, 8, 16, 32, 63, 124, 244, 480, 945, 1861]),
  ((6, [3]), [1, 2, 4, 8, 16, 32, 63, 124, 244, 481, 948, 1868]),
  ((6, [2]), [1, 2, 4, 8, 16, 32, 63, 124, 244, 480, 945, 1860]),
  ((6, [1, 3]), [1, 2, 4, 8, 16, 32, 63, 124, 244, 481, 948, 1869]),
  ((6, [2, 4]), [1, 2, 4, 8, 16, 32, 63, 124, 245, 484, 956, 1888])]
def tabOk (L : Nat) : Prop := ∀ m ∈ wds L, tabW.lookup (L, bord m) = some (vec12 m)
instance (L : Nat) : Decidable (tabOk L) := by unfold tabOk; infer_instance
theorem tab2 : tabOk 2 := by decide +kernel
theorem tab3 : tabOk 3 := by decide +kernel
theorem tab4 : tabOk 4 := by decide +kernel
theorem tab5 : tabOk 5 := by decide +kernel
theorem tab6 : tabOk 6 := by decide +kernel
theorem tab_all {m : List Bool} (h2 : 2 ≤ m.length) (h6 : m.length ≤ 6) : tabW.lookup (m.length, bord m) = some (vec12 m) := by
  have : m.length = 2 ∨ m.length = 3 ∨ m.length = 4 ∨ m.length = 5 ∨ m.length = 6 := by omega
  rcases this with e | e | e | e | e <;> rw [e]
  · exact tab2 m ((wds_mem 2 m).mpr e)
  · exact tab3 m ((wds_mem 3 m).mpr e)
  · exact tab4 m ((wds_mem 4 m).mpr e)
  · exact tab5 m ((wds_mem 5 m).mpr e)
  · exact tab6 m ((wds_mem 6 m).mpr e)
def partB (p q : (Nat × List Nat) × List Nat) : Bool := decide (p.1 = q.1) || (List.range (p.1.1 + q.1.1)).any fun n => decide (n < 12) && decide (p.2[n]? ≠ q.2[n]?)
theorem tab_part : ∀ p ∈ tabW, ∀ q ∈ tabW, partB p q = true := by decide +kernel
theorem lookup_mem {α β : Type} [BEq α] [LawfulBEq α] {l : List (α × β)} {a : α} {b : β} (h : l.lookup a = some b) : (a, b) ∈ l := by
  induction l with
  | nil => cases h
  | cons p r ih =>
    obtain ⟨x, y⟩ := p
    rw [List.lookup_cons] at h
    cases c : a == x with
    | true =>
      rw [c] at h
      cases h
      rw [eq_of_beq c]
      exact List.mem_cons_self
    | false =>
      rw [c] at h
      exact List.mem_cons_of_mem _ (ih h)
/-- unlike marks of at most six bits are told apart below the sum of their bits -/
theorem marks_part {m u : List Bool} (h2 : 2 ≤ m.length) (h6 : m.length ≤ 6) (k2 : 2 ≤ u.length) (k6 : u.length ≤ 6) (h : ¬ (m.length = u.length ∧ bord m = bord u)) : ∃ n, n < m.length + u.length ∧ aW m n ≠ aW u n := by
  have hp := tab_part _ (lookup_mem (tab_all h2 h6)) _ (lookup_mem (tab_all k2 k6))
  unfold partB at hp
  rw [Bool.or_eq_true, decide_eq_true_iff, List.any_eq_true] at hp
  rcases hp with e | ⟨n, hn, hp⟩
  · exact absurd ⟨congrArg Prod.fst e, congrArg Prod.snd e⟩ h
  · rw [Bool.and_eq_true, decide_eq_true_iff, decide_eq_true_iff] at hp
    refine ⟨n, List.mem_range.mp hn, fun e => hp.2 ?_⟩
    show (vec12 m)[n]? = (vec12 u)[n]?
    rw [vec12_at (by omega) hp.1, vec12_at (by omega) hp.1, e]
theorem known_part : (∀ n < 6, aW [true, false, false, true] n = aW [true, false, true, false] n) ∧ aW [true, false, false, true] 6 ≠ aW [true, false, true, false] 6 := by
  have key : ∀ n < 12, ((vec12 [true, false, false, true])[n]? = (vec12 [true, false, true, false])[n]? ↔ aW [true, false, false, true] n = aW [true, false, true, false] n) := fun n hn => by
    rw [vec12_at (by decide) hn, vec12_at (by decide) hn]
    exact ⟨Option.some.inj, fun e => by rw [e]⟩
  refine ⟨fun n hn => (key n (by omega)).mp ?_, fun e => absurd ((key 6 (by decide)).mpr e) (by decide +kernel)⟩
  have all : ∀ n < 6, (vec12 [true, false, false, true])[n]? = (vec12 [true, false, true, false])[n]? := by decide +kernel
  exact all n hn
theorem bord_known : bord [true, false, true, false, true, false, true, false, true, false, true, false, true, false, true, false] = [2, 4, 6, 8, 10, 12, 14] := by decide +kernel
theorem bord_two : bord [true, false, false, true] = [1] ∧ bord [true, false, true, false] = [2] := by decide +kernel
end My

namespace My
open PySem PySem.Spec PyProof.Rows L2
theorem nil_binds {K : PySem.W.Frag} {fd : FuncData} {ps : List Str} (h : ∃ ds, Vals [] ds ∧ Binds K fd ps ds) : Binds K fd ps [] := by
  obtain ⟨ds, v, b⟩ := h
  cases v
  exact b
def top (i : Nat) : Stmt := PySem.Challenge.pw_wholesound_k90_marks_and_rows_without_th.main.body.getD i (.Pass ⟨0, 0, 0, 0⟩)
abbrev s_is_whole : Stmt := top 5
abbrev N_is_whole : List Str := ["value"]
theorem sc_is_whole : FnScope N_is_whole ["value"] (defScope s_is_whole) := ⟨rfl, rfl, rfl, by decide +kernel, rfl, by decide +kernel, by decide +kernel⟩
abbrev s_is_between : Stmt := top 6
abbrev N_is_between : List Str := ["value", "low", "high"]
theorem sc_is_between : FnScope N_is_between ["value", "low", "high"] (defScope s_is_between) := ⟨rfl, rfl, rfl, by decide +kernel, rfl, by decide +kernel, by decide +kernel⟩
abbrev s_is_bits : Stmt := top 7
abbrev N_is_bits : List Str := ["value", "sign"]
theorem sc_is_bits : FnScope N_is_bits ["value"] (defScope s_is_bits) := ⟨rfl, rfl, rfl, by decide +kernel, rfl, by decide +kernel, by decide +kernel⟩
abbrev s_check_number : Stmt := top 8
abbrev N_check_number : List Str := ["number", "low", "high"]
theorem sc_check_number : FnScope N_check_number ["number", "low", "high"] (defScope s_check_number) := ⟨rfl, rfl, rfl, by decide +kernel, rfl, by decide +kernel, by decide +kernel⟩
abbrev s_is_mark : Stmt := top 12
abbrev N_is_mark : List Str := ["value"]
theorem sc_is_mark : FnScope N_is_mark ["value"] (defScope s_is_mark) := ⟨rfl, rfl, rfl, by decide +kernel, rfl, by decide +kernel, by decide +kernel⟩
abbrev s_check_mark : Stmt := top 13
abbrev N_check_mark : List Str := ["mark"]
theorem sc_check_mark : FnScope N_check_mark ["mark"] (defScope s_check_mark) := ⟨rfl, rfl, rfl, by decide +kernel, rfl, by decide +kernel, by decide +kernel⟩
abbrev s_borders : Stmt := top 14
abbrev N_borders : List Str := ["mark", "width"]
theorem sc_borders : FnScope N_borders ["mark"] (defScope s_borders) := ⟨rfl, rfl, rfl, by decide +kernel, rfl, by decide +kernel, by decide +kernel⟩
abbrev s_is_free : Stmt := top 15
abbrev N_is_free : List Str := ["mark"]
theorem sc_is_free : FnScope N_is_free ["mark"] (defScope s_is_free) := ⟨rfl, rfl, rfl, by decide +kernel, rfl, by decide +kernel, by decide +kernel⟩
abbrev s_bit_put_in : Stmt := top 16
abbrev N_bit_put_in : List Str := ["mark"]
theorem sc_bit_put_in : FnScope N_bit_put_in ["mark"] (defScope s_bit_put_in) := ⟨rfl, rfl, rfl, by decide +kernel, rfl, by decide +kernel, by decide +kernel⟩
abbrev s_is_keepable : Stmt := top 17
abbrev N_is_keepable : List Str := ["mark"]
theorem sc_is_keepable : FnScope N_is_keepable ["mark"] (defScope s_is_keepable) := ⟨rfl, rfl, rfl, by decide +kernel, rfl, by decide +kernel, by decide +kernel⟩
abbrev s_how_many_free : Stmt := top 18
abbrev N_how_many_free : List Str := ["many", "numbers", "width", "less"]
theorem sc_how_many_free : FnScope N_how_many_free ["many"] (defScope s_how_many_free) := ⟨rfl, rfl, rfl, by decide +kernel, rfl, by decide +kernel, by decide +kernel⟩
abbrev s_state_after : Stmt := top 19
abbrev N_state_after : List Str := ["mark", "state", "bit", "word", "width"]
theorem sc_state_after : FnScope N_state_after ["mark", "state", "bit"] (defScope s_state_after) := ⟨rfl, rfl, rfl, by decide +kernel, rfl, by decide +kernel, by decide +kernel⟩
abbrev s_moves_of : Stmt := top 20
abbrev N_moves_of : List Str := ["mark", "state"]
theorem sc_moves_of : FnScope N_moves_of ["mark"] (defScope s_moves_of) := ⟨rfl, rfl, rfl, by decide +kernel, rfl, by decide +kernel, by decide +kernel⟩
abbrev s_counts_after : Stmt := top 21
abbrev N_counts_after : List Str := ["moves", "counts", "later", "number", "both", "there"]
theorem sc_counts_after : FnScope N_counts_after ["moves", "counts"] (defScope s_counts_after) := ⟨rfl, rfl, rfl, by decide +kernel, rfl, by decide +kernel, by decide +kernel⟩
abbrev s_counts_at_first : Stmt := top 22
abbrev N_counts_at_first : List Str := ["mark"]
theorem sc_counts_at_first : FnScope N_counts_at_first ["mark"] (defScope s_counts_at_first) := ⟨rfl, rfl, rfl, by decide +kernel, rfl, by decide +kernel, by decide +kernel⟩
abbrev s_rows_without : Stmt := top 23
abbrev N_rows_without : List Str := ["mark", "many", "turn", "moves", "counts"]
theorem sc_rows_without : FnScope N_rows_without ["mark", "many"] (defScope s_rows_without) := ⟨rfl, rfl, rfl, by decide +kernel, rfl, by decide +kernel, by decide +kernel⟩
abbrev s_same_marks : Stmt := top 24
abbrev N_same_marks : List Str := ["one", "other", "mine", "theirs"]
theorem sc_same_marks : FnScope N_same_marks ["one", "other"] (defScope s_same_marks) := ⟨rfl, rfl, rfl, by decide +kernel, rfl, by decide +kernel, by decide +kernel⟩
abbrev s_parting_length : Stmt := top 25
abbrev N_parting_length : List Str := ["one", "other", "many", "mine", "theirs", "left", "right"]
theorem sc_parting_length : FnScope N_parting_length ["one", "other"] (defScope s_parting_length) := ⟨rfl, rfl, rfl, by decide +kernel, rfl, by decide +kernel, by decide +kernel⟩
abbrev s_law_pump : Stmt := top 27
abbrev N_law_pump : List Str := ["_law_script", "_law_at", "_law_cell", "_law_full", "_law_turn", "_law_deep", "_law_near", "_law_far"]
theorem sc_law_pump : FnScope N_law_pump ["_law_script", "_law_at"] (defScope s_law_pump) := ⟨rfl, rfl, rfl, by decide +kernel, rfl, by decide +kernel, by decide +kernel⟩
abbrev s_law_cup : Stmt := top 28
abbrev N_law_cup : List Str := ["_law_pump_here", "_law_many", "_law_digit"]
theorem sc_law_cup : FnScope N_law_cup ["_law_pump_here", "_law_many"] (defScope s_law_cup) := ⟨rfl, rfl, rfl, by decide +kernel, rfl, by decide +kernel, by decide +kernel⟩
abbrev s_law_mark : Stmt := top 29
abbrev N_law_mark : List Str := ["_law_pump_here", "_law_least", "_law_most", "_law_turn", "_law_many", "_law_signs"]
theorem sc_law_mark : FnScope N_law_mark ["_law_pump_here", "_law_least", "_law_most"] (defScope s_law_mark) := ⟨rfl, rfl, rfl, by decide +kernel, rfl, by decide +kernel, by decide +kernel⟩
abbrev s_law_borders : Stmt := top 30
abbrev N_law_borders : List Str := ["_law_mark_here", "_law_wide"]
theorem sc_law_borders : FnScope N_law_borders ["_law_mark_here"] (defScope s_law_borders) := ⟨rfl, rfl, rfl, by decide +kernel, rfl, by decide +kernel, by decide +kernel⟩
abbrev s_law_keepable : Stmt := top 31
abbrev N_law_keepable : List Str := ["_law_mark_here", "_law_bit"]
theorem sc_law_keepable : FnScope N_law_keepable ["_law_mark_here"] (defScope s_law_keepable) := ⟨rfl, rfl, rfl, by decide +kernel, rfl, by decide +kernel, by decide +kernel⟩
abbrev s_law_words : Stmt := top 32
abbrev N_law_words : List Str := ["_law_many", "_law_words_here", "_law_turn", "_law_longer", "_law_word"]
theorem sc_law_words : FnScope N_law_words ["_law_many"] (defScope s_law_words) := ⟨rfl, rfl, rfl, by decide +kernel, rfl, by decide +kernel, by decide +kernel⟩
abbrev s_law_caught : Stmt := top 33
abbrev N_law_caught : List Str := ["_law_way", "_law_mark_here", "_law_many", "_law_told", "error"]
theorem sc_law_caught : FnScope N_law_caught ["_law_way", "_law_mark_here", "_law_many"] (defScope s_law_caught) := ⟨rfl, rfl, rfl, by decide +kernel, rfl, by decide +kernel, by decide +kernel⟩
abbrev s_law_refused : Stmt := top 34
abbrev N_law_refused : List Str := ["_law_bad", "_law_way", "_law_told", "_law_one"]
theorem sc_law_refused : FnScope N_law_refused [] (defScope s_law_refused) := ⟨rfl, rfl, rfl, by decide +kernel, rfl, by decide +kernel, by decide +kernel⟩
abbrev s_law_without : Stmt := top 35
abbrev N_law_without : List Str := ["_law_mark_here", "_law_many", "_law_word"]
theorem sc_law_without : FnScope N_law_without ["_law_mark_here", "_law_many"] (defScope s_law_without) := ⟨rfl, rfl, rfl, by decide +kernel, rfl, by decide +kernel, by decide +kernel⟩
abbrev s_law_turned : Stmt := top 36
abbrev N_law_turned : List Str := ["_law_mark_here", "_law_way", "_law_turned_here", "_law_bit"]
theorem sc_law_turned : FnScope N_law_turned ["_law_mark_here", "_law_way"] (defScope s_law_turned) := ⟨rfl, rfl, rfl, by decide +kernel, rfl, by decide +kernel, by decide +kernel⟩
abbrev s_law_pair_right : Stmt := top 37
abbrev N_law_pair_right : List Str := ["_law_one", "_law_other", "_law_alike", "_law_told", "_law_many"]
theorem sc_law_pair_right : FnScope N_law_pair_right ["_law_one", "_law_other"] (defScope s_law_pair_right) := ⟨rfl, rfl, rfl, by decide +kernel, rfl, by decide +kernel, by decide +kernel⟩
abbrev s_law_free_right : Stmt := top 38
abbrev N_law_free_right : List Str := ["_law_pump_here", "_law_many", "_law_half", "_law_even", "_law_odd", "_law_word"]
theorem sc_law_free_right : FnScope N_law_free_right ["_law_pump_here"] (defScope s_law_free_right) := ⟨rfl, rfl, rfl, by decide +kernel, rfl, by decide +kernel, by decide +kernel⟩
abbrev s_law : Stmt := top 39
abbrev N_law : List Str := ["_law_script", "_law_pump_here", "_law_mark_here", "_law_long", "_law_one", "_law_other", "_law_told", "_law_great", "_law_due", "_law_many", "_law_way"]
theorem sc_law : FnScope N_law ["_law_script"] (defScope s_law) := ⟨rfl, rfl, rfl, by decide +kernel, rfl, by decide +kernel, by decide +kernel⟩
abbrev s_InvalidNumber___init__ : Stmt := inClass (top 2) 0
theorem nsc_InvalidNumber : NdefX.NScope ["self", "value", "__class__"] ["self", "value"] ["__class__"] (defScope s_InvalidNumber___init__) := NdefX.nscope_by (by decide +kernel)
theorem sb_InvalidNumber : Sup.SupBody s_InvalidNumber___init__ := ⟨_, _, _, _, _, _, _, _, _, _, rfl, by decide +kernel, fun env => ⟨_, rfl⟩⟩
abbrev s_InvalidMark___init__ : Stmt := inClass (top 3) 0
theorem nsc_InvalidMark : NdefX.NScope ["self", "value", "__class__"] ["self", "value"] ["__class__"] (defScope s_InvalidMark___init__) := NdefX.nscope_by (by decide +kernel)
theorem sb_InvalidMark : Sup.SupBody s_InvalidMark___init__ := ⟨_, _, _, _, _, _, _, _, _, _, rfl, by decide +kernel, fun env => ⟨_, rfl⟩⟩
def fileS : Str := PySem.Challenge.pw_wholesound_k90_marks_and_rows_without_th.main.file
/-- what the top has left -/
structure Top (K : PySem.W.Frag) (mg : Str → Option Value) where
  f_is_whole : Addr
  fd_is_whole : FuncData
  F_is_whole : FunD K "is_whole" "is_whole" (defArgs s_is_whole) (defBody s_is_whole) (defScope s_is_whole) [] [] f_is_whole fd_is_whole
  b_is_whole : Binds K fd_is_whole ["value"] []
  g_is_whole : mg "is_whole" = some (.ref f_is_whole)
  f_is_between : Addr
  fd_is_between : FuncData
  F_is_between : FunD K "is_between" "is_between" (defArgs s_is_between) (defBody s_is_between) (defScope s_is_between) [] [] f_is_between fd_is_between
  b_is_between : Binds K fd_is_between ["value", "low", "high"] []
  g_is_between : mg "is_between" = some (.ref f_is_between)
  f_is_bits : Addr
  fd_is_bits : FuncData
  F_is_bits : FunD K "is_bits" "is_bits" (defArgs s_is_bits) (defBody s_is_bits) (defScope s_is_bits) [] [] f_is_bits fd_is_bits
  b_is_bits : Binds K fd_is_bits ["value"] []
  g_is_bits : mg "is_bits" = some (.ref f_is_bits)
  f_check_number : Addr
  fd_check_number : FuncData
  F_check_number : FunD K "check_number" "check_number" (defArgs s_check_number) (defBody s_check_number) (defScope s_check_number) [] [] f_check_number fd_check_number
  b_check_number : Binds K fd_check_number ["number", "low", "high"] []
  g_check_number : mg "check_number" = some (.ref f_check_number)
  f_is_mark : Addr
  fd_is_mark : FuncData
  F_is_mark : FunD K "is_mark" "is_mark" (defArgs s_is_mark) (defBody s_is_mark) (defScope s_is_mark) [] [] f_is_mark fd_is_mark
  b_is_mark : Binds K fd_is_mark ["value"] []
  g_is_mark : mg "is_mark" = some (.ref f_is_mark)
  f_check_mark : Addr
  fd_check_mark : FuncData
  F_check_mark : FunD K "check_mark" "check_mark" (defArgs s_check_mark) (defBody s_check_mark) (defScope s_check_mark) [] [] f_check_mark fd_check_mark
  b_check_mark : Binds K fd_check_mark ["mark"] []
  g_check_mark : mg "check_mark" = some (.ref f_check_mark)
  f_borders : Addr
  fd_borders : FuncData
  F_borders : FunD K "borders" "borders" (defArgs s_borders) (defBody s_borders) (defScope s_borders) [] [] f_borders fd_borders
  b_borders : Binds K fd_borders ["mark"] []
  g_borders : mg "borders" = some (.ref f_borders)
  f_is_free : Addr
  fd_is_free : FuncData
  F_is_free : FunD K "is_free" "is_free" (defArgs s_is_free) (defBody s_is_free) (defScope s_is_free) [] [] f_is_free fd_is_free
  b_is_free : Binds K fd_is_free ["mark"] []
  g_is_free : mg "is_free" = some (.ref f_is_free)
  f_bit_put_in : Addr
  fd_bit_put_in : FuncData
  F_bit_put_in : FunD K "bit_put_in" "bit_put_in" (defArgs s_bit_put_in) (defBody s_bit_put_in) (defScope s_bit_put_in) [] [] f_bit_put_in fd_bit_put_in
  b_bit_put_in : Binds K fd_bit_put_in ["mark"] []
  g_bit_put_in : mg "bit_put_in" = some (.ref f_bit_put_in)
  f_is_keepable : Addr
  fd_is_keepable : FuncData
  F_is_keepable : FunD K "is_keepable" "is_keepable" (defArgs s_is_keepable) (defBody s_is_keepable) (defScope s_is_keepable) [] [] f_is_keepable fd_is_keepable
  b_is_keepable : Binds K fd_is_keepable ["mark"] []
  g_is_keepable : mg "is_keepable" = some (.ref f_is_keepable)
  f_how_many_free : Addr
  fd_how_many_free : FuncData
  F_how_many_free : FunD K "how_many_free" "how_many_free" (defArgs s_how_many_free) (defBody s_how_many_free) (defScope s_how_many_free) [] [] f_how_many_free fd_how_many_free
  b_how_many_free : Binds K fd_how_many_free ["many"] []
  g_how_many_free : mg "how_many_free" = some (.ref f_how_many_free)
  f_state_after : Addr
  fd_state_after : FuncData
  F_state_after : FunD K "state_after" "state_after" (defArgs s_state_after) (defBody s_state_after) (defScope s_state_after) [] [] f_state_after fd_state_after
  b_state_after : Binds K fd_state_after ["mark", "state", "bit"] []
  g_state_after : mg "state_after" = some (.ref f_state_after)
  f_moves_of : Addr
  fd_moves_of : FuncData
  F_moves_of : FunD K "moves_of" "moves_of" (defArgs s_moves_of) (defBody s_moves_of) (defScope s_moves_of) [] [] f_moves_of fd_moves_of
  b_moves_of : Binds K fd_moves_of ["mark"] []
  g_moves_of : mg "moves_of" = some (.ref f_moves_of)
  f_counts_after : Addr
  fd_counts_after : FuncData
  F_counts_after : FunD K "counts_after" "counts_after" (defArgs s_counts_after) (defBody s_counts_after) (defScope s_counts_after) [] [] f_counts_after fd_counts_after
  b_counts_after : Binds K fd_counts_after ["moves", "counts"] []
  g_counts_after : mg "counts_after" = some (.ref f_counts_after)
  f_counts_at_first : Addr
  fd_counts_at_first : FuncData
  F_counts_at_first : FunD K "counts_at_first" "counts_at_first" (defArgs s_counts_at_first) (defBody s_counts_at_first) (defScope s_counts_at_first) [] [] f_counts_at_first fd_counts_at_first
  b_counts_at_first : Binds K fd_counts_at_first ["mark"] []
  g_counts_at_first : mg "counts_at_first" = some (.ref f_counts_at_first)
  f_rows_without : Addr
  fd_rows_without : FuncData
  F_rows_without : FunD K "rows_without" "rows_without" (defArgs s_rows_without) (defBody s_rows_without) (defScope s_rows_without) [] [] f_rows_without fd_rows_without
  b_rows_without : Binds K fd_rows_without ["mark", "many"] []
  g_rows_without : mg "rows_without" = some (.ref f_rows_without)
  f_same_marks : Addr
  fd_same_marks : FuncData
  F_same_marks : FunD K "same_marks" "same_marks" (defArgs s_same_marks) (defBody s_same_marks) (defScope s_same_marks) [] [] f_same_marks fd_same_marks
  b_same_marks : Binds K fd_same_marks ["one", "other"] []
  g_same_marks : mg "same_marks" = some (.ref f_same_marks)
  f_parting_length : Addr
  fd_parting_length : FuncData
  F_parting_length : FunD K "parting_length" "parting_length" (defArgs s_parting_length) (defBody s_parting_length) (defScope s_parting_length) [] [] f_parting_length fd_parting_length
  b_parting_length : Binds K fd_parting_length ["one", "other"] []
  g_parting_length : mg "parting_length" = some (.ref f_parting_length)
  f_law_pump : Addr
  fd_law_pump : FuncData
  F_law_pump : FunD K "_law_pump" "_law_pump" (defArgs s_law_pump) (defBody s_law_pump) (defScope s_law_pump) [] [] f_law_pump fd_law_pump
  b_law_pump : Binds K fd_law_pump ["_law_script", "_law_at"] []
  g_law_pump : mg "_law_pump" = some (.ref f_law_pump)
  f_law_cup : Addr
  fd_law_cup : FuncData
  F_law_cup : FunD K "_law_cup" "_law_cup" (defArgs s_law_cup) (defBody s_law_cup) (defScope s_law_cup) [] [] f_law_cup fd_law_cup
  b_law_cup : Binds K fd_law_cup ["_law_pump_here", "_law_many"] []
  g_law_cup : mg "_law_cup" = some (.ref f_law_cup)
  f_law_mark : Addr
  fd_law_mark : FuncData
  F_law_mark : FunD K "_law_mark" "_law_mark" (defArgs s_law_mark) (defBody s_law_mark) (defScope s_law_mark) [] [] f_law_mark fd_law_mark
  b_law_mark : Binds K fd_law_mark ["_law_pump_here", "_law_least", "_law_most"] []
  g_law_mark : mg "_law_mark" = some (.ref f_law_mark)
  f_law_borders : Addr
  fd_law_borders : FuncData
  F_law_borders : FunD K "_law_borders" "_law_borders" (defArgs s_law_borders) (defBody s_law_borders) (defScope s_law_borders) [] [] f_law_borders fd_law_borders
  b_law_borders : Binds K fd_law_borders ["_law_mark_here"] []
  g_law_borders : mg "_law_borders" = some (.ref f_law_borders)
  f_law_keepable : Addr
  fd_law_keepable : FuncData
  F_law_keepable : FunD K "_law_keepable" "_law_keepable" (defArgs s_law_keepable) (defBody s_law_keepable) (defScope s_law_keepable) [] [] f_law_keepable fd_law_keepable
  b_law_keepable : Binds K fd_law_keepable ["_law_mark_here"] []
  g_law_keepable : mg "_law_keepable" = some (.ref f_law_keepable)
  f_law_words : Addr
  fd_law_words : FuncData
  F_law_words : FunD K "_law_words" "_law_words" (defArgs s_law_words) (defBody s_law_words) (defScope s_law_words) [] [] f_law_words fd_law_words
  b_law_words : Binds K fd_law_words ["_law_many"] []
  g_law_words : mg "_law_words" = some (.ref f_law_words)
  f_law_caught : Addr
  fd_law_caught : FuncData
  F_law_caught : FunD K "_law_caught" "_law_caught" (defArgs s_law_caught) (defBody s_law_caught) (defScope s_law_caught) [] [] f_law_caught fd_law_caught
  b_law_caught : Binds K fd_law_caught ["_law_way", "_law_mark_here", "_law_many"] []
  g_law_caught : mg "_law_caught" = some (.ref f_law_caught)
  f_law_refused : Addr
  fd_law_refused : FuncData
  F_law_refused : FunD K "_law_refused" "_law_refused" (defArgs s_law_refused) (defBody s_law_refused) (defScope s_law_refused) [] [] f_law_refused fd_law_refused
  b_law_refused : Binds K fd_law_refused [] []
  g_law_refused : mg "_law_refused" = some (.ref f_law_refused)
  f_law_without : Addr
  fd_law_without : FuncData
  F_law_without : FunD K "_law_without" "_law_without" (defArgs s_law_without) (defBody s_law_without) (defScope s_law_without) [] [] f_law_without fd_law_without
  b_law_without : Binds K fd_law_without ["_law_mark_here", "_law_many"] []
  g_law_without : mg "_law_without" = some (.ref f_law_without)
  f_law_turned : Addr
  fd_law_turned : FuncData
  F_law_turned : FunD K "_law_turned" "_law_turned" (defArgs s_law_turned) (defBody s_law_turned) (defScope s_law_turned) [] [] f_law_turned fd_law_turned
  b_law_turned : Binds K fd_law_turned ["_law_mark_here", "_law_way"] []
  g_law_turned : mg "_law_turned" = some (.ref f_law_turned)
  f_law_pair_right : Addr
  fd_law_pair_right : FuncData
  F_law_pair_right : FunD K "_law_pair_right" "_law_pair_right" (defArgs s_law_pair_right) (defBody s_law_pair_right) (defScope s_law_pair_right) [] [] f_law_pair_right fd_law_pair_right
  b_law_pair_right : Binds K fd_law_pair_right ["_law_one", "_law_other"] []
  g_law_pair_right : mg "_law_pair_right" = some (.ref f_law_pair_right)
  f_law_free_right : Addr
  fd_law_free_right : FuncData
  F_law_free_right : FunD K "_law_free_right" "_law_free_right" (defArgs s_law_free_right) (defBody s_law_free_right) (defScope s_law_free_right) [] [] f_law_free_right fd_law_free_right
  b_law_free_right : Binds K fd_law_free_right ["_law_pump_here"] []
  g_law_free_right : mg "_law_free_right" = some (.ref f_law_free_right)
  f_law : Addr
  fd_law : FuncData
  F_law : FunD K "law" "law" (defArgs s_law) (defBody s_law) (defScope s_law) [] [] f_law fd_law
  b_law : Binds K fd_law ["_law_script"] []
  g_law : mg "law" = some (.ref f_law)
  C_InvalidNumber : Addr
  gc_InvalidNumber : mg "InvalidNumber" = some (.ref C_InvalidNumber)
  fi_InvalidNumber : Addr
  fd_InvalidNumber : FuncData
  er_InvalidNumber : ErrC K fileS "InvalidNumber" s_InvalidNumber___init__ C_InvalidNumber fi_InvalidNumber fd_InvalidNumber
  C_InvalidMark : Addr
  gc_InvalidMark : mg "InvalidMark" = some (.ref C_InvalidMark)
  fi_InvalidMark : Addr
  fd_InvalidMark : FuncData
  er_InvalidMark : ErrC K fileS "InvalidMark" s_InvalidMark___init__ C_InvalidMark fi_InvalidMark fd_InvalidMark
  em_InvalidNumber_InvalidMark : PySem.W.exmOne K (.ref C_InvalidNumber) (.ref C_InvalidMark) = some false
  em_InvalidNumber_InvalidNumber : PySem.W.exmOne K (.ref C_InvalidNumber) (.ref C_InvalidNumber) = some true
  em_InvalidMark_InvalidMark : PySem.W.exmOne K (.ref C_InvalidMark) (.ref C_InvalidMark) = some true
  em_InvalidMark_InvalidNumber : PySem.W.exmOne K (.ref C_InvalidMark) (.ref C_InvalidNumber) = some false
  n_len : mg "len" = none
  n_sum : mg "sum" = none
  n_int : mg "int" = none
  n_bool : mg "bool" = none
  n_list : mg "list" = none
  n_str : mg "str" = none
  n_range : mg "range" = none
  n_isinstance : mg "isinstance" = none
  n_zip : mg "zip" = none
  n_repr : mg "repr" = none
  n_super : mg "super" = none
  t_MOST_MARK : Tok
  m_MOST_MARK : mg "MOST_MARK" = some (.int 16 t_MOST_MARK)
  t_MOST_MANY : Tok
  m_MOST_MANY : mg "MOST_MANY" = some (.int 1000 t_MOST_MANY)
def d_is_whole : He.DefD := ⟨("is_whole", none), "is_whole", "is_whole", defArgs s_is_whole, defBody s_is_whole, defScope s_is_whole, [], []⟩
def d_is_between : He.DefD := ⟨("is_between", none), "is_between", "is_between", defArgs s_is_between, defBody s_is_between, defScope s_is_between, [], []⟩
def d_is_bits : He.DefD := ⟨("is_bits", none), "is_bits", "is_bits", defArgs s_is_bits, defBody s_is_bits, defScope s_is_bits, [], []⟩
def d_check_number : He.DefD := ⟨("check_number", none), "check_number", "check_number", defArgs s_check_number, defBody s_check_number, defScope s_check_number, [], []⟩
def d_is_mark : He.DefD := ⟨("is_mark", none), "is_mark", "is_mark", defArgs s_is_mark, defBody s_is_mark, defScope s_is_mark, [], []⟩
def d_check_mark : He.DefD := ⟨("check_mark", none), "check_mark", "check_mark", defArgs s_check_mark, defBody s_check_mark, defScope s_check_mark, [], []⟩
def d_borders : He.DefD := ⟨("borders", none), "borders", "borders", defArgs s_borders, defBody s_borders, defScope s_borders, [], []⟩
def d_is_free : He.DefD := ⟨("is_free", none), "is_free", "is_free", defArgs s_is_free, defBody s_is_free, defScope s_is_free, [], []⟩
def d_bit_put_in : He.DefD := ⟨("bit_put_in", none), "bit_put_in", "bit_put_in", defArgs s_bit_put_in, defBody s_bit_put_in, defScope s_bit_put_in, [], []⟩
def d_is_keepable : He.DefD := ⟨("is_keepable", none), "is_keepable", "is_keepable", defArgs s_is_keepable, defBody s_is_keepable, defScope s_is_keepable, [], []⟩
def d_how_many_free : He.DefD := ⟨("how_many_free", none), "how_many_free", "how_many_free", defArgs s_how_many_free, defBody s_how_many_free, defScope s_how_many_free, [], []⟩
def d_state_after : He.DefD := ⟨("state_after", none), "state_after", "state_after", defArgs s_state_after, defBody s_state_after, defScope s_state_after, [], []⟩
def d_moves_of : He.DefD := ⟨("moves_of", none), "moves_of", "moves_of", defArgs s_moves_of, defBody s_moves_of, defScope s_moves_of, [], []⟩
def d_counts_after : He.DefD := ⟨("counts_after", none), "counts_after", "counts_after", defArgs s_counts_after, defBody s_counts_after, defScope s_counts_after, [], []⟩
def d_counts_at_first : He.DefD := ⟨("counts_at_first", none), "counts_at_first", "counts_at_first", defArgs s_counts_at_first, defBody s_counts_at_first, defScope s_counts_at_first, [], []⟩
def d_rows_without : He.DefD := ⟨("rows_without", none), "rows_without", "rows_without", defArgs s_rows_without, defBody s_rows_without, defScope s_rows_without, [], []⟩
def d_same_marks : He.DefD := ⟨("same_marks", none), "same_marks", "same_marks", defArgs s_same_marks, defBody s_same_marks, defScope s_same_marks, [], []⟩
def d_parting_length : He.DefD := ⟨("parting_length", none), "parting_length", "parting_length", defArgs s_parting_length, defBody s_parting_length, defScope s_parting_length, [], []⟩
def d_law_pump : He.DefD := ⟨("_law_pump", none), "_law_pump", "_law_pump", defArgs s_law_pump, defBody s_law_pump, defScope s_law_pump, [], []⟩
def d_law_cup : He.DefD := ⟨("_law_cup", none), "_law_cup", "_law_cup", defArgs s_law_cup, defBody s_law_cup, defScope s_law_cup, [], []⟩
def d_law_mark : He.DefD := ⟨("_law_mark", none), "_law_mark", "_law_mark", defArgs s_law_mark, defBody s_law_mark, defScope s_law_mark, [], []⟩
def d_law_borders : He.DefD := ⟨("_law_borders", none), "_law_borders", "_law_borders", defArgs s_law_borders, defBody s_law_borders, defScope s_law_borders, [], []⟩
def d_law_keepable : He.DefD := ⟨("_law_keepable", none), "_law_keepable", "_law_keepable", defArgs s_law_keepable, defBody s_law_keepable, defScope s_law_keepable, [], []⟩
def d_law_words : He.DefD := ⟨("_law_words", none), "_law_words", "_law_words", defArgs s_law_words, defBody s_law_words, defScope s_law_words, [], []⟩
def d_law_caught : He.DefD := ⟨("_law_caught", none), "_law_caught", "_law_caught", defArgs s_law_caught, defBody s_law_caught, defScope s_law_caught, [], []⟩
def d_law_refused : He.DefD := ⟨("_law_refused", none), "_law_refused", "_law_refused", defArgs s_law_refused, defBody s_law_refused, defScope s_law_refused, [], []⟩
def d_law_without : He.DefD := ⟨("_law_without", none), "_law_without", "_law_without", defArgs s_law_without, defBody s_law_without, defScope s_law_without, [], []⟩
def d_law_turned : He.DefD := ⟨("_law_turned", none), "_law_turned", "_law_turned", defArgs s_law_turned, defBody s_law_turned, defScope s_law_turned, [], []⟩
def d_law_pair_right : He.DefD := ⟨("_law_pair_right", none), "_law_pair_right", "_law_pair_right", defArgs s_law_pair_right, defBody s_law_pair_right, defScope s_law_pair_right, [], []⟩
def d_law_free_right : He.DefD := ⟨("_law_free_right", none), "_law_free_right", "_law_free_right", defArgs s_law_free_right, defBody s_law_free_right, defScope s_law_free_right, [], []⟩
def d_law : He.DefD := ⟨("law", none), "law", "law", defArgs s_law, defBody s_law, defScope s_law, [], []⟩
def fn : List He.DefD := [d_is_whole, d_is_between, d_is_bits, d_check_number, d_is_mark, d_check_mark, d_borders, d_is_free, d_bit_put_in, d_is_keepable, d_how_many_free, d_state_after, d_moves_of, d_counts_after, d_counts_at_first, d_rows_without, d_same_marks, d_parting_length, d_law_pump, d_law_cup, d_law_mark, d_law_borders, d_law_keepable, d_law_words, d_law_caught, d_law_refused, d_law_without, d_law_turned, d_law_pair_right, d_law_free_right, d_law]
def fa0 : List He.Fa := [.glo "is_whole", .glo "is_between", .glo "is_bits", .glo "check_number", .glo "is_mark", .glo "check_mark", .glo "borders", .glo "is_free", .glo "bit_put_in", .glo "is_keepable", .glo "how_many_free", .glo "state_after", .glo "moves_of", .glo "counts_after", .glo "counts_at_first", .glo "rows_without", .glo "same_marks", .glo "parting_length", .glo "_law_pump", .glo "_law_cup", .glo "_law_mark", .glo "_law_borders", .glo "_law_keepable", .glo "_law_words", .glo "_law_caught", .glo "_law_refused", .glo "_law_without", .glo "_law_turned", .glo "_law_pair_right", .glo "_law_free_right"]
def fa1 : List He.Fa := [.glo "law", .free "len", .free "sum", .free "int", .free "bool", .free "list", .free "str", .free "range", .free "isinstance", .free "zip", .free "repr", .free "super", .int "MOST_MARK" 16, .int "MOST_MANY" 1000, .glo "InvalidNumber", .glo "InvalidMark"]
def fa : List He.Fa := fa0 ++ fa1
/-- isinstance of an own class -/
def insB (K : PySem.W.Frag) (x : Str) : Bool := decide (PySem.W.findIn K (.ref (He.ga K x)) "__class__" = some (some (.builtin "object.__class__"))) && (decide (PySem.W.specialIn K (.builtin "object.__class__") "__get__" = some (some (.builtin "getset_descriptor.__get__"))) && (decide (PySem.W.takesIn K (.builtin "object.__class__") = some true) && (decide (PySem.W.mroIn K (He.ga K x) (.type "object") = some true) && decide (PySem.W.kitOne K (.ref (He.ga K x)) (.ref (He.ga K x)) = some true))))
theorem insB_ok {K : PySem.W.Frag} {x : Str} (cl : Cls K (He.ga K x)) (h : insB K x = true) : C8.InsC K (He.ga K x) := by
  unfold insB at h
  simp only [Bool.and_eq_true, decide_eq_true_eq] at h
  exact ⟨cl, h.1, h.2.1, h.2.2.1, h.2.2.2.1, h.2.2.2.2⟩
def eqB (K : PySem.W.Frag) (x : Str) : Bool := decide (PySem.W.findIn K (.ref (He.ga K x)) "__ne__" = some (some (.builtin "object.__ne__"))) && (decide (PySem.W.subIn K (.ref (He.ga K x)) (.type "object") = some true) && (decide (PySem.W.subIn K (.type "list") (.ref (He.ga K x)) = some false) && (decide (PySem.W.kitOne K (.type "list") (.ref (He.ga K x)) = some false) && (decide (PySem.W.subIn K (.type "tuple") (.ref (He.ga K x)) = some false) && decide (PySem.W.kitOne K (.type "tuple") (.ref (He.ga K x)) = some false)))))
def eqs : List Str := []
def own : List Str := []
def ex (K : PySem.W.Frag) : Bool := (own.all fun x => insB K x) && eqs.all fun x => eqB K x
abbrev R : PySem.W.OpenRow := PySem.W.OpenLaw.row PySem.Challenge.rw_wholesound_k90_marks_and_rows_without_th
def errs : List Str := ["InvalidNumber", "InvalidMark"]
def ems : List (Str × Str × Bool) := [("InvalidNumber", "InvalidMark", false), ("InvalidNumber", "InvalidNumber", true), ("InvalidMark", "InvalidMark", true), ("InvalidMark", "InvalidNumber", false)]
def emB (K : PySem.W.Frag) (z : Str × Str × Bool) : Bool := decide (PySem.W.exmOne K (.ref (He.ga K z.1)) (.ref (He.ga K z.2.1)) = some z.2.2)
def erV : List ErW := [some (("__init__" : Str), ("InvalidNumber" : Str) ++ (".__init__" : Str), defArgs s_InvalidNumber___init__, FuncBody.stmts (defBody s_InvalidNumber___init__), defScope s_InvalidNumber___init__, mainGlobals, builtinsNs), some (("__init__" : Str), ("InvalidMark" : Str) ++ (".__init__" : Str), defArgs s_InvalidMark___init__, FuncBody.stmts (defBody s_InvalidMark___init__), defScope s_InvalidMark___init__, mainGlobals, builtinsNs)]
def exP (K : PySem.W.Frag) : Bool := ex K && ((errs.all fun z => errB K fileS z) && ems.all fun z => emB K z)
def exW (K : PySem.W.Frag) : List ErW := errs.map fun z => erW K z
abbrev Al : Type := He.AlD × Bool × List ErW
def frK (g : Addr → Option Obj) : PySem.W.Frag := He.frG g (cStatics :: He.asD g 5)
def obsG (g : Addr → Option Obj) : Al := (He.obsD fa fn (frK g), exP (frK g), exW (frK g))
def Says (K : PySem.W.Frag) : Prop := He.SaysD fa fn K ∧ ex K = true ∧ (∀ z ∈ errs, errB K fileS z = true) ∧ (∀ z ∈ ems, emB K z = true) ∧ exW K = erV
theorem says_of {K : PySem.W.Frag} (e : (He.obsD fa fn K, exP K, exW K) = ((He.valD fn, true, erV) : Al)) : Says K := by
  have e1 := congrArg Prod.fst e
  have e2 := congrArg (fun z : Al => z.2.1) e
  have e3 := congrArg (fun z : Al => z.2.2) e
  have e4 : ex K = true ∧ ((errs.all fun z => errB K fileS z) && ems.all fun z => emB K z) = true := Bool.and_eq_true_iff.mp (show (ex K && ((errs.all fun z => errB K fileS z) && ems.all fun z => emB K z)) = true from e2)
  have e5 : (errs.all fun z => errB K fileS z) = true ∧ (ems.all fun z => emB K z) = true := Bool.and_eq_true_iff.mp e4.2
  exact ⟨e1, e4.1, List.all_eq_true.mp e5.1, List.all_eq_true.mp e5.2, e3⟩
theorem erV_at {K : PySem.W.Frag} {ps : List Str} {vs : List ErW} (e : (ps.map fun z => erW K z) = vs) (i : Nat) {z : Str} {v : ErW} (hz : ps[i]? = some z) (hv : vs[i]? = some v) : erW K z = v := by
  rw [← e, List.getElem?_map, hz] at hv
  exact Option.some.inj hv
def hk : PySem.W.Hook where
  α := Al
  obs := fun s => obsG s.heap.get?
  val := fun _ => (He.valD fn, true, erV)
  says := fun _ h => ∃ K : PySem.W.Frag, K.In h ∧ Says K
  of := fun _ _ e => ⟨_, He.frG_in, says_of e⟩
  keeps := fun _ _ _ ⟨K, hK, c⟩ k => ⟨K, PySem.W.Frag.In.keeps hK k, c⟩
def ob (s : PySem.W.SharedT) : Al := obsG (HandSHeadRun.getT s)
theorem ob_eq (s : PySem.W.SharedT) : ob s = hk.obs s.abs := by
  have e : HandSHeadRun.getT s = s.abs.heap.get? := funext (HandSHeadRun.getT_eq s)
  show obsG (HandSHeadRun.getT s) = obsG s.abs.heap.get?
  rw [e]
def loose0 : List PySem.Str := ["SoundError", "InvalidNumber", "InvalidMark", "is_whole", "is_between", "is_bits", "check_number", "MOST_MARK", "MOST_MANY", "is_mark", "check_mark", "borders", "is_free", "bit_put_in", "is_keepable", "how_many_free", "state_after", "moves_of", "counts_after", "counts_at_first", "rows_without", "same_marks", "parting_length", "_law_pump", "_law_cup", "_law_mark", "_law_borders", "_law_keepable", "_law_words", "_law_caught"]
def loose1 : List PySem.Str := ["_law_refused", "_law_without", "_law_turned", "_law_pair_right", "_law_free_right"]
abbrev loose : List PySem.Str := loose0 ++ loose1
theorem run (w : World) : HandSHeadRun.RunEq R (PySem.W.view R.prog [39]) hk ob 8000 loose w := by
  intro os
  kernel_rfl
noncomputable def top_mk {K : PySem.W.Frag} {h : Heap} {mg : Str → Option Value} (X : K.In h) (G : h.Ns mainGlobals mg) (c : Says K) : Top K mg :=
  let p0 := c.1.def_ 0 (d := d_is_whole) rfl
  let p1 := c.1.def_ 1 (d := d_is_between) rfl
  let p2 := c.1.def_ 2 (d := d_is_bits) rfl
  let p3 := c.1.def_ 3 (d := d_check_number) rfl
  let p4 := c.1.def_ 4 (d := d_is_mark) rfl
  let p5 := c.1.def_ 5 (d := d_check_mark) rfl
  let p6 := c.1.def_ 6 (d := d_borders) rfl
  let p7 := c.1.def_ 7 (d := d_is_free) rfl
  let p8 := c.1.def_ 8 (d := d_bit_put_in) rfl
  let p9 := c.1.def_ 9 (d := d_is_keepable) rfl
  let p10 := c.1.def_ 10 (d := d_how_many_free) rfl
  let p11 := c.1.def_ 11 (d := d_state_after) rfl
  let p12 := c.1.def_ 12 (d := d_moves_of) rfl
  let p13 := c.1.def_ 13 (d := d_counts_after) rfl
  let p14 := c.1.def_ 14 (d := d_counts_at_first) rfl
  let p15 := c.1.def_ 15 (d := d_rows_without) rfl
  let p16 := c.1.def_ 16 (d := d_same_marks) rfl
  let p17 := c.1.def_ 17 (d := d_parting_length) rfl
  let p18 := c.1.def_ 18 (d := d_law_pump) rfl
  let p19 := c.1.def_ 19 (d := d_law_cup) rfl
  let p20 := c.1.def_ 20 (d := d_law_mark) rfl
  let p21 := c.1.def_ 21 (d := d_law_borders) rfl
  let p22 := c.1.def_ 22 (d := d_law_keepable) rfl
  let p23 := c.1.def_ 23 (d := d_law_words) rfl
  let p24 := c.1.def_ 24 (d := d_law_caught) rfl
  let p25 := c.1.def_ 25 (d := d_law_refused) rfl
  let p26 := c.1.def_ 26 (d := d_law_without) rfl
  let p27 := c.1.def_ 27 (d := d_law_turned) rfl
  let p28 := c.1.def_ 28 (d := d_law_pair_right) rfl
  let p29 := c.1.def_ 29 (d := d_law_free_right) rfl
  let p30 := c.1.def_ 30 (d := d_law) rfl
  let q0 := He.int_ok X G (c.1.fact 42 (f := .int "MOST_MARK" 16) rfl)
  let q1 := He.int_ok X G (c.1.fact 43 (f := .int "MOST_MANY" 1000) rfl)
  let er0 := err_ok (K := K) (file := fileS) (x := "InvalidNumber") (st := s_InvalidNumber___init__) (c.2.2.1 "InvalidNumber" (by decide +kernel)) (erV_at c.2.2.2.2 0 (z := "InvalidNumber") rfl rfl) (fun _ _ _ _ _ _ _ _ us its h1 h2 => match us, its, h1, h2 with | [_, _], [_], _, _ => ⟨_, rfl, rfl⟩)
  let er1 := err_ok (K := K) (file := fileS) (x := "InvalidMark") (st := s_InvalidMark___init__) (c.2.2.1 "InvalidMark" (by decide +kernel)) (erV_at c.2.2.2.2 1 (z := "InvalidMark") rfl rfl) (fun _ _ _ _ _ _ _ _ us its h1 h2 => match us, its, h1, h2 with | [_, _], [_], _, _ => ⟨_, rfl, rfl⟩)
  { C_InvalidNumber := _, gc_InvalidNumber := He.glo_ok X G (c.1.fact 44 (f := .glo "InvalidNumber") rfl), fi_InvalidNumber := _, fd_InvalidNumber := er0.choose, er_InvalidNumber := er0.choose_spec,
    C_InvalidMark := _, gc_InvalidMark := He.glo_ok X G (c.1.fact 45 (f := .glo "InvalidMark") rfl), fi_InvalidMark := _, fd_InvalidMark := er1.choose, er_InvalidMark := er1.choose_spec,
    em_InvalidNumber_InvalidMark := of_decide_eq_true (c.2.2.2.1 ("InvalidNumber", "InvalidMark", false) (by decide +kernel)),
    em_InvalidNumber_InvalidNumber := of_decide_eq_true (c.2.2.2.1 ("InvalidNumber", "InvalidNumber", true) (by decide +kernel)),
    em_InvalidMark_InvalidMark := of_decide_eq_true (c.2.2.2.1 ("InvalidMark", "InvalidMark", true) (by decide +kernel)),
    em_InvalidMark_InvalidNumber := of_decide_eq_true (c.2.2.2.1 ("InvalidMark", "InvalidNumber", false) (by decide +kernel)),
    f_is_whole := _, fd_is_whole := p0.choose, F_is_whole := p0.choose_spec, b_is_whole := p0.choose_spec.bindsN fun _ _ _ _ _ _ us hl => match us, hl with | [_], _ => rfl, g_is_whole := He.glo_ok X G (c.1.fact 0 (f := .glo "is_whole") rfl),
    f_is_between := _, fd_is_between := p1.choose, F_is_between := p1.choose_spec, b_is_between := p1.choose_spec.bindsN fun _ _ _ _ _ _ us hl => match us, hl with | [_, _, _], _ => rfl, g_is_between := He.glo_ok X G (c.1.fact 1 (f := .glo "is_between") rfl),
    f_is_bits := _, fd_is_bits := p2.choose, F_is_bits := p2.choose_spec, b_is_bits := p2.choose_spec.bindsN fun _ _ _ _ _ _ us hl => match us, hl with | [_], _ => rfl, g_is_bits := He.glo_ok X G (c.1.fact 2 (f := .glo "is_bits") rfl),
    f_check_number := _, fd_check_number := p3.choose, F_check_number := p3.choose_spec, b_check_number := p3.choose_spec.bindsN fun _ _ _ _ _ _ us hl => match us, hl with | [_, _, _], _ => rfl, g_check_number := He.glo_ok X G (c.1.fact 3 (f := .glo "check_number") rfl),
    f_is_mark := _, fd_is_mark := p4.choose, F_is_mark := p4.choose_spec, b_is_mark := p4.choose_spec.bindsN fun _ _ _ _ _ _ us hl => match us, hl with | [_], _ => rfl, g_is_mark := He.glo_ok X G (c.1.fact 4 (f := .glo "is_mark") rfl),
    f_check_mark := _, fd_check_mark := p5.choose, F_check_mark := p5.choose_spec, b_check_mark := p5.choose_spec.bindsN fun _ _ _ _ _ _ us hl => match us, hl with | [_], _ => rfl, g_check_mark := He.glo_ok X G (c.1.fact 5 (f := .glo "check_mark") rfl),
    f_borders := _, fd_borders := p6.choose, F_borders := p6.choose_spec, b_borders := p6.choose_spec.bindsN fun _ _ _ _ _ _ us hl => match us, hl with | [_], _ => rfl, g_borders := He.glo_ok X G (c.1.fact 6 (f := .glo "borders") rfl),
    f_is_free := _, fd_is_free := p7.choose, F_is_free := p7.choose_spec, b_is_free := p7.choose_spec.bindsN fun _ _ _ _ _ _ us hl => match us, hl with | [_], _ => rfl, g_is_free := He.glo_ok X G (c.1.fact 7 (f := .glo "is_free") rfl),
    f_bit_put_in := _, fd_bit_put_in := p8.choose, F_bit_put_in := p8.choose_spec, b_bit_put_in := p8.choose_spec.bindsN fun _ _ _ _ _ _ us hl => match us, hl with | [_], _ => rfl, g_bit_put_in := He.glo_ok X G (c.1.fact 8 (f := .glo "bit_put_in") rfl),
    f_is_keepable := _, fd_is_keepable := p9.choose, F_is_keepable := p9.choose_spec, b_is_keepable := p9.choose_spec.bindsN fun _ _ _ _ _ _ us hl => match us, hl with | [_], _ => rfl, g_is_keepable := He.glo_ok X G (c.1.fact 9 (f := .glo "is_keepable") rfl),
    f_how_many_free := _, fd_how_many_free := p10.choose, F_how_many_free := p10.choose_spec, b_how_many_free := p10.choose_spec.bindsN fun _ _ _ _ _ _ us hl => match us, hl with | [_], _ => rfl, g_how_many_free := He.glo_ok X G (c.1.fact 10 (f := .glo "how_many_free") rfl),
    f_state_after := _, fd_state_after := p11.choose, F_state_after := p11.choose_spec, b_state_after := p11.choose_spec.bindsN fun _ _ _ _ _ _ us hl => match us, hl with | [_, _, _], _ => rfl, g_state_after := He.glo_ok X G (c.1.fact 11 (f := .glo "state_after") rfl),
    f_moves_of := _, fd_moves_of := p12.choose, F_moves_of := p12.choose_spec, b_moves_of := p12.choose_spec.bindsN fun _ _ _ _ _ _ us hl => match us, hl with | [_], _ => rfl, g_moves_of := He.glo_ok X G (c.1.fact 12 (f := .glo "moves_of") rfl),
    f_counts_after := _, fd_counts_after := p13.choose, F_counts_after := p13.choose_spec, b_counts_after := p13.choose_spec.bindsN fun _ _ _ _ _ _ us hl => match us, hl with | [_, _], _ => rfl, g_counts_after := He.glo_ok X G (c.1.fact 13 (f := .glo "counts_after") rfl),
    f_counts_at_first := _, fd_counts_at_first := p14.choose, F_counts_at_first := p14.choose_spec, b_counts_at_first := p14.choose_spec.bindsN fun _ _ _ _ _ _ us hl => match us, hl with | [_], _ => rfl, g_counts_at_first := He.glo_ok X G (c.1.fact 14 (f := .glo "counts_at_first") rfl),
    f_rows_without := _, fd_rows_without := p15.choose, F_rows_without := p15.choose_spec, b_rows_without := p15.choose_spec.bindsN fun _ _ _ _ _ _ us hl => match us, hl with | [_, _], _ => rfl, g_rows_without := He.glo_ok X G (c.1.fact 15 (f := .glo "rows_without") rfl),
    f_same_marks := _, fd_same_marks := p16.choose, F_same_marks := p16.choose_spec, b_same_marks := p16.choose_spec.bindsN fun _ _ _ _ _ _ us hl => match us, hl with | [_, _], _ => rfl, g_same_marks := He.glo_ok X G (c.1.fact 16 (f := .glo "same_marks") rfl),
    f_parting_length := _, fd_parting_length := p17.choose, F_parting_length := p17.choose_spec, b_parting_length := p17.choose_spec.bindsN fun _ _ _ _ _ _ us hl => match us, hl with | [_, _], _ => rfl, g_parting_length := He.glo_ok X G (c.1.fact 17 (f := .glo "parting_length") rfl),
    f_law_pump := _, fd_law_pump := p18.choose, F_law_pump := p18.choose_spec, b_law_pump := p18.choose_spec.bindsN fun _ _ _ _ _ _ us hl => match us, hl with | [_, _], _ => rfl, g_law_pump := He.glo_ok X G (c.1.fact 18 (f := .glo "_law_pump") rfl),
    f_law_cup := _, fd_law_cup := p19.choose, F_law_cup := p19.choose_spec, b_law_cup := p19.choose_spec.bindsN fun _ _ _ _ _ _ us hl => match us, hl with | [_, _], _ => rfl, g_law_cup := He.glo_ok X G (c.1.fact 19 (f := .glo "_law_cup") rfl),
    f_law_mark := _, fd_law_mark := p20.choose, F_law_mark := p20.choose_spec, b_law_mark := p20.choose_spec.bindsN fun _ _ _ _ _ _ us hl => match us, hl with | [_, _, _], _ => rfl, g_law_mark := He.glo_ok X G (c.1.fact 20 (f := .glo "_law_mark") rfl),
    f_law_borders := _, fd_law_borders := p21.choose, F_law_borders := p21.choose_spec, b_law_borders := p21.choose_spec.bindsN fun _ _ _ _ _ _ us hl => match us, hl with | [_], _ => rfl, g_law_borders := He.glo_ok X G (c.1.fact 21 (f := .glo "_law_borders") rfl),
    f_law_keepable := _, fd_law_keepable := p22.choose, F_law_keepable := p22.choose_spec, b_law_keepable := p22.choose_spec.bindsN fun _ _ _ _ _ _ us hl => match us, hl with | [_], _ => rfl, g_law_keepable := He.glo_ok X G (c.1.fact 22 (f := .glo "_law_keepable") rfl),
    f_law_words := _, fd_law_words := p23.choose, F_law_words := p23.choose_spec, b_law_words := p23.choose_spec.bindsN fun _ _ _ _ _ _ us hl => match us, hl with | [_], _ => rfl, g_law_words := He.glo_ok X G (c.1.fact 23 (f := .glo "_law_words") rfl),
    f_law_caught := _, fd_law_caught := p24.choose, F_law_caught := p24.choose_spec, b_law_caught := p24.choose_spec.bindsN fun _ _ _ _ _ _ us hl => match us, hl with | [_, _, _], _ => rfl, g_law_caught := He.glo_ok X G (c.1.fact 24 (f := .glo "_law_caught") rfl),
    f_law_refused := _, fd_law_refused := p25.choose, F_law_refused := p25.choose_spec, b_law_refused := p25.choose_spec.bindsN fun _ _ _ _ _ _ us hl => match us, hl with | [], _ => rfl, g_law_refused := He.glo_ok X G (c.1.fact 25 (f := .glo "_law_refused") rfl),
    f_law_without := _, fd_law_without := p26.choose, F_law_without := p26.choose_spec, b_law_without := p26.choose_spec.bindsN fun _ _ _ _ _ _ us hl => match us, hl with | [_, _], _ => rfl, g_law_without := He.glo_ok X G (c.1.fact 26 (f := .glo "_law_without") rfl),
    f_law_turned := _, fd_law_turned := p27.choose, F_law_turned := p27.choose_spec, b_law_turned := p27.choose_spec.bindsN fun _ _ _ _ _ _ us hl => match us, hl with | [_, _], _ => rfl, g_law_turned := He.glo_ok X G (c.1.fact 27 (f := .glo "_law_turned") rfl),
    f_law_pair_right := _, fd_law_pair_right := p28.choose, F_law_pair_right := p28.choose_spec, b_law_pair_right := p28.choose_spec.bindsN fun _ _ _ _ _ _ us hl => match us, hl with | [_, _], _ => rfl, g_law_pair_right := He.glo_ok X G (c.1.fact 28 (f := .glo "_law_pair_right") rfl),
    f_law_free_right := _, fd_law_free_right := p29.choose, F_law_free_right := p29.choose_spec, b_law_free_right := p29.choose_spec.bindsN fun _ _ _ _ _ _ us hl => match us, hl with | [_], _ => rfl, g_law_free_right := He.glo_ok X G (c.1.fact 29 (f := .glo "_law_free_right") rfl),
    f_law := _, fd_law := p30.choose, F_law := p30.choose_spec, b_law := p30.choose_spec.bindsN fun _ _ _ _ _ _ us hl => match us, hl with | [_], _ => rfl, g_law := He.glo_ok X G (c.1.fact 30 (f := .glo "law") rfl),
    n_len := He.free_ok X G (c.1.fact 31 (f := .free "len") rfl),
    n_sum := He.free_ok X G (c.1.fact 32 (f := .free "sum") rfl),
    n_int := He.free_ok X G (c.1.fact 33 (f := .free "int") rfl),
    n_bool := He.free_ok X G (c.1.fact 34 (f := .free "bool") rfl),
    n_list := He.free_ok X G (c.1.fact 35 (f := .free "list") rfl),
    n_str := He.free_ok X G (c.1.fact 36 (f := .free "str") rfl),
    n_range := He.free_ok X G (c.1.fact 37 (f := .free "range") rfl),
    n_isinstance := He.free_ok X G (c.1.fact 38 (f := .free "isinstance") rfl),
    n_zip := He.free_ok X G (c.1.fact 39 (f := .free "zip") rfl),
    n_repr := He.free_ok X G (c.1.fact 40 (f := .free "repr") rfl),
    n_super := He.free_ok X G (c.1.fact 41 (f := .free "super") rfl),
    t_MOST_MARK := q0.choose, m_MOST_MARK := q0.choose_spec,
    t_MOST_MANY := q1.choose, m_MOST_MANY := q1.choose_spec }
theorem G_InvalidNumber___init__ {P : Program} {w : World} {K : PySem.W.Frag} {mg : Str → Option Value} {base : Heap} {CX : CXT} [Sup.PF P fileS] (T : Top K mg) : FnOk P w K mg base CX 1 T.fi_InvalidNumber T.fd_InvalidNumber ["self", "value"] (Sup.sp_exc_init T.C_InvalidNumber) := Sup.fn_sup nsc_InvalidNumber (by decide +kernel) sb_InvalidNumber T.er_InvalidNumber.sup T.n_super
theorem G_InvalidMark___init__ {P : Program} {w : World} {K : PySem.W.Frag} {mg : Str → Option Value} {base : Heap} {CX : CXT} [Sup.PF P fileS] (T : Top K mg) : FnOk P w K mg base CX 1 T.fi_InvalidMark T.fd_InvalidMark ["self", "value"] (Sup.sp_exc_init T.C_InvalidMark) := Sup.fn_sup nsc_InvalidMark (by decide +kernel) sb_InvalidMark T.er_InvalidMark.sup T.n_super
end My

namespace My
open PySem PySem.Spec PyProof.Rows L2
/-! ### f(k = v, ..), nothing by position -/
theorem FunD.kbindsN {K : PySem.W.Frag} {x qual : Str} {params : Arguments} {body : List Stmt} {scope : Scope} {f : Addr} {fd : FuncData} {ps : List Str} (F : FunD K x qual params body scope [] [] f fd) (ks : List Str) (g : {α : Type} → List α → List α)
    (hrel : ∀ {zs : List V} {ws : List Value}, Vals zs ws → Vals (g zs) (g ws))
    (h : ∀ (kV doc pm : Value) (an : Option Addr) (cdv ct : Value) (ws : List Value), ws.length = ks.length → bindArgs (PySem.W.fnOf x qual params body scope .none kV doc pm an cdv ct) ⟨[], ks.zip ws⟩ = pure (ps.zip (g ws))) :
    KBn K fd ps 0 ks (fun _ ws => g ws) (fun _ zs => g zs) := by
  obtain ⟨oc, od, dV, kV, doc, pm, an, cdv, ct, osl, rfl, lk, hcd, hD, hK⟩ := F.ex
  rcases hD with ⟨_, rfl⟩ | ⟨e, _⟩
  · refine ⟨fun s us ws X l1 l2 => ?_, fun _ r => hrel r⟩
    obtain rfl : us = [] := List.eq_nil_of_length_eq_zero l1
    exact .of_eq (h kV doc pm an cdv ct ws l2)
  · exact absurd rfl e
/-- two, the other way round -/
def sw2 {α : Type} : List α → List α
  | [a, b] => [b, a]
  | l => l
theorem sw2_rel {zs : List V} {ws : List Value} (h : Vals zs ws) : Vals (sw2 zs) (sw2 ws) := by
  cases h with
  | nil => exact .nil
  | cons r1 h => cases h with
    | nil => exact .cons r1 .nil
    | cons r2 h => cases h with
      | nil => exact .cons r2 (.cons r1 .nil)
      | cons r3 h => exact .cons r1 (.cons r2 (.cons r3 h))
/-- any number of them, back to front -/
theorem Vals_rev {zs : List V} {ws : List Value} (h : Vals zs ws) : Vals zs.reverse ws.reverse := by
  induction h with
  | nil => exact .nil
  | cons r h ih =>
    rw [List.reverse_cons, List.reverse_cons]
    exact Vals.append ih (.cons r .nil)
def tCallKO (m : Nat) (sp : Sp) (gV : List V → List V → List V) (E : XK) (tk : TA) : TE := fun σ H Q => tk σ H fun zs H2 => zs.length = m ∧ sp (gV [] zs) H2 Q E
section
variable {X : Cx} {CX : CXT} {k : Nat} {f : Addr} {fd : FuncData} {ps ks : List Str} {sp : Sp} {E : XK} {x : Str} {p pos : Pos} {kws : List Keyword} {tk : TA} {g : List Value → List Value → List Value} {gV : List V → List V → List V}
theorem pe_callKO (F : FnOk X.prog X.w X.K X.mg X.base CX k f fd ps sp) (hr : Room k X.A) (hg : Gl X x) (hm : X.mg x = some (.ref f)) (hk : PySem.W.keepIn X.K (.ref f) = true) (hb : KBn X.K fd ps 0 ks g gV) (hx : Passes CX X E)
    (hkw : PK X kws tk) (hall : (backToKw pos (keywordEach kws X.env)).all (·.1.isSome) = true := by rfl) (hks : (backToKw pos (keywordEach kws X.env)).filterMap (·.1) = ks := by rfl)
    (hdb : (x == ("__debug__" : Str)) = false := by decide)
    (hpl : ((backTo pos (starEach [] X.env)).any (·.1) || (backToKw pos (keywordEach kws X.env)).any (·.1.isNone)) = false := by rfl) :
    PE X (.Call (.Name x p) [] kws pos) (tCallKO ks.length sp gV E tk) := by
  refine ⟨fun pins s σ H Q I h => ?_⟩
  refine wpAny_Call_Name_kw (ld_glob I hg hm ?_ hdb)
  refine PySem.W.callWith_KW0 (h₀ := X.base) I.ok.mod.kin hk hall (thn (hkw.run pos pins s σ H _ I h) fun ws s2 ⟨zs, H2, I2, rz, l2, q2⟩ => ⟨I2.kIn, ?_⟩) hpl
  rw [hks]
  exact run_fnN (us := []) (vs := []) F hr hb hx I2 .nil rz rfl l2 q2
end
end My

set_option exponentiation.threshold 100000
namespace My
open PySem PySem.Spec PyProof.Rows L2 Pre
section
variable {P : Program} {w : World} {K : PySem.W.Frag} {mg : Str → Option Value} {base : Heap}
/-! ### the law's draws -/
/-- a generator: its count is at most n -/
def GenAt (H : Hp) (g : Addr) (n : Nat) : Prop := ∃ x y z : Int, H g = some (.lst [.int x, .int y, .int z]) ∧ 0 ≤ z ∧ z ≤ (n : Int)
/-- all but one thing stand as they stood -/
def But (g : Addr) (H H' : Hp) : Prop := ∀ b o, b ≠ g → H b = some o → H' b = some o
theorem But.refl {g : Addr} {H : Hp} : But g H H := fun _ _ _ h => h
theorem But.trans {g : Addr} {H H1 H2 : Hp} (a : But g H H1) (b : But g H1 H2) : But g H H2 := fun c o n h => b c o n (a c o n h)
theorem But.same {g : Addr} {H H1 H2 : Hp} (a : But g H H1) (b : Same H1 H2) : But g H H2 := fun c o n h => b c o (a c o n h)
theorem But.of {g : Addr} {H H1 : Hp} (b : Same H H1) : But g H H1 := fun c o _ h => b c o h
theorem But.upd {g : Addr} {H H1 : Hp} {o : HO} (a : But g H H1) : But g H (upd H1 g o) := fun c u n h => by
  rw [upd_ne n]
  exact a c u n h
theorem But.free {g : Addr} {H H1 : Hp} (a : But g H H1) {p : Addr} (n : p ≠ g) (h : H1 p = none) : H p = none := by
  cases e : H p with
  | none => rfl
  | some o => rw [a p o n e] at h; cases h
/-- what is changed was not there at first -/
theorem But.fresh {g : Addr} {H H1 H2 : Hp} (s : Same H H1) (n : H g = none) (b : But g H1 H2) : Same H H2 := fun c o h => b c o (ne_of_none h n) (s c o h)
theorem GenAt.mono {H : Hp} {g : Addr} {n m : Nat} (h : GenAt H g n) (l : n ≤ m) : GenAt H g m := by
  obtain ⟨x, y, z, a, b, c⟩ := h
  exact ⟨x, y, z, a, b, by omega⟩
theorem GenAt.same {H H' : Hp} {g : Addr} {n : Nat} (h : GenAt H g n) (s : Same H H') : GenAt H' g n := by
  obtain ⟨x, y, z, a, b⟩ := h
  exact ⟨x, y, z, s _ _ a, b⟩
theorem GenAt.ne {H : Hp} {g : Addr} {n : Nat} {p : Addr} (h : GenAt H g n) (np : H p = none) : p ≠ g := by
  obtain ⟨x, y, z, a, _⟩ := h
  exact (ne_of_none a np).symm
theorem small_2900 {b : Int} (h : b ≤ 2 ^ 60) : b < 2 ^ 2900 := by omega
theorem pow_pos' (w : Nat) : (0 : Int) < 2 ^ w := Int.pow_pos (by decide)
theorem pow2_le {k m : Nat} (h : k ≤ m) : (2 : Int) ^ k ≤ 2 ^ m := by
  have e := Nat.pow_le_pow_right (show 0 < 2 by decide) h
  have e2 : ((2 ^ k : Nat) : Int) ≤ ((2 ^ m : Nat) : Int) := Int.ofNat_le.mpr e
  rw [Int.natCast_pow, Int.natCast_pow] at e2
  exact e2
def sp_law_cell (K : PySem.W.Frag) : Sp := fun vs H Q _ => ∃ (a : Addr) (ns : List Int) (i : Nat), vs = [.ref a, .int i] ∧ SqL K H a (ns.map V.int) ∧ ∀ (n : Int) H', Same H H' → Q (.int n) H'
theorem cmul_mod (x m j : Int) (h0 : 0 < m) (h1 : m ≤ 2 ^ 60) : CMul (x % m) j := by
  have a := Int.emod_nonneg x (show m ≠ 0 by omega)
  have b := Int.emod_lt_of_pos x h0
  exact .inl ⟨by omega, by omega⟩
def sp_law_hash : Sp := fun vs H Q _ => ∃ i j : Int, vs = [.int i, .int j] ∧ 0 ≤ j ∧ j < 2 ^ 60 ∧ ∀ n : Int, Q (.int n) H

def sp_law_generator (K : PySem.W.Frag) : Sp := fun vs H Q _ => ∃ (a : Addr) (ns : List Int) (i : Nat), vs = [.ref a, .int i] ∧ SqL K H a (ns.map V.int) ∧ ∀ H' g, Same H H' → H g = none → GenAt H' g (1000 * i) → Q (.ref g) H'
def sp_law_random : Sp := fun vs H Q _ => ∃ (g : Addr) (b : Int) (n : Nat), vs = [.ref g, .int b] ∧ GenAt H g n ∧ n ≤ 10 ^ 12 ∧ 0 < b ∧ b < 2 ^ 2900 ∧ ∀ (d : Int) H', 0 ≤ d → d < b → GenAt H' g (n + 100) → But g H H' → Q (.int d) H'
/-- a comprehension over a range that draws whole numbers -/
theorem lc_drawR {lo : Int} {n : Nat} {j : Nat} {te : TE} {vs : List Nat} {σ : L2.St} {H1 : Hp} {D : Addr} {Qd : Hp → Prop} (g : Addr) (m step : Nat) (P : Int → Prop) (nD : H1 D = none) (hG : GenAt H1 g m) (hz : n < sizeLine)
    (hw : ∀ x, wipe ((wipe σ vs).set j (some x)) vs = wipe σ vs)
    (hs : ∀ (i : Nat) (H' : Hp), i < n → But g H1 H' → GenAt H' g (m + step * i) → ∀ Qt : V → Hp → Prop, (∀ (y : Int) H'', P y → But g H' H'' → GenAt H'' g (m + step * (i + 1)) → Qt (.int y) H'') → te ((wipe σ vs).set j (some (.int (lo + (i : Int))))) H' Qt)
    (hd : ∀ H' (ys : List Int), But g H1 H' → GenAt H' g (m + step * n) → H' D = some (.lst (ys.map V.int)) → ys.length = n → (∀ y ∈ ys, P y) → Qd H') :
    ∃ W : Nat → Nat → Hp → Prop, (∃ m, W 0 m (upd H1 D (.lst []))) ∧ ∀ i m H, W i m H →
      ((Itr lo n).stop i H ∧ Qd H) ∨ ((Itr lo n).go i H ∧ ∃ Nx : Hp → Prop, (∀ H', Nx H' → ∃ m', m' < m ∧ W (i + 1) m' H') ∧ ∀ x H', (Itr lo n).yld i H x H' → gName j x (wipe σ vs) H' fun σ2 H2 => wipe σ2 vs = wipe σ vs ∧ tYes σ2 H2 fun b H3 =>
        if b = true then te σ2 H3 fun y H4 => ∃ acc, H4 D = some (.lst acc) ∧ acc.length < sizeLine ∧ Nx (upd H4 D (.lst (acc ++ [y]))) else Nx H3) := by
  have nDg : D ≠ g := hG.ne nD
  refine lc_range (lo := lo) (n := n) (fun i H => ∃ ys : List Int, But g H1 H ∧ GenAt H g (m + step * i) ∧ H D = some (.lst (ys.map V.int)) ∧ ys.length = i ∧ ∀ y ∈ ys, P y)
    ⟨[], But.of (same_upd nD), hG.same (same_upd nD), upd_same, rfl, (fun _ h => nomatch h)⟩ ?_ ?_
  · rintro i H hi ⟨ys, b, hg, hD, hl, hP⟩
    refine ⟨hw _, ?_⟩
    unfold tYes
    dsimp only
    rw [if_pos (show true = true from rfl)]
    refine hs i H hi b hg _ fun y H2 py b2 hg2 => ?_
    refine ⟨_, b2 _ _ nDg hD, by rw [List.length_map]; omega, ys ++ [y], ?_, ?_, ?_, ?_, ?_⟩
    · intro c o nc hc
      rw [upd_ne (ne_of_none hc nD)]
      exact b2 _ _ nc (b _ _ nc hc)
    · obtain ⟨x1, x2, x3, e1, e2⟩ := hg2
      exact ⟨x1, x2, x3, by rw [upd_ne nDg.symm]; exact e1, e2⟩
    · rw [upd_same, List.map_append]
      rfl
    · rw [List.length_append, hl]
      rfl
    · intro z hz
      rcases List.mem_append.mp hz with hz | hz
      · exact hP z hz
      · rw [List.mem_singleton.mp hz]
        exact py
  · rintro H ⟨ys, b, hg, hD, hl, hP⟩
    exact hd H ys b hg hD hl hP
end
end My

namespace My
open PySem PySem.Spec PyProof.Rows L2 Pre
/-- a comprehension over a list that makes new things: R tells what is known of the i-th -/
theorem lc_relL {K : PySem.W.Frag} {a : Addr} {xs : List V} {j : Nat} {te : TE} {vs : List Nat} {σ : L2.St} {H1 : Hp} {D : Addr} {Qd : Hp → Prop} (R : Nat → V → Hp → Prop) (nD : H1 D = none) (hS : SqL K H1 a xs) (hz : xs.length < sizeLine)
    (mono : ∀ (i : Nat) (y : V) (H H' : Hp), Pre.Off D H H' → R i y H → R i y H') (hw : ∀ x, wipe ((wipe σ vs).set j (some x)) vs = wipe σ vs)
    (hs : ∀ (i : Nat) (x : V) (H' : Hp) (zs : List V), xs[i]? = some x → Same H1 H' → H' D = some (.lst zs) → ∀ Qt : V → Hp → Prop, (∀ y H'', Same H' H'' → R i y H'' → Qt y H'') → te ((wipe σ vs).set j (some x)) H' Qt)
    (hd : ∀ H' ys, Same H1 H' → H' D = some (.lst ys) → ys.length = xs.length → (∀ (i : Nat) (y : V), ys[i]? = some y → R i y H') → Qd H') :
    ∃ W : Nat → Nat → Hp → Prop, (∃ m, W 0 m (upd H1 D (.lst []))) ∧ ∀ i m H, W i m H →
      ((Itl K a).stop i H ∧ Qd H) ∨ ((Itl K a).go i H ∧ ∃ Nx : Hp → Prop, (∀ H', Nx H' → ∃ m', m' < m ∧ W (i + 1) m' H') ∧ ∀ x H', (Itl K a).yld i H x H' → gName j x (wipe σ vs) H' fun σ2 H2 => wipe σ2 vs = wipe σ vs ∧ tYes σ2 H2 fun b H3 =>
        if b = true then te σ2 H3 fun y H4 => ∃ acc, H4 D = some (.lst acc) ∧ acc.length < sizeLine ∧ Nx (upd H4 D (.lst (acc ++ [y]))) else Nx H3) := by
  refine lc_list (K := K) (a := a) (xs := xs) (RelPv R H1 D) ⟨[], same_upd nD, upd_same, rfl, fun k y h => by simp at h⟩ (fun i H _ ⟨_, s, _⟩ => s.seq hS) ?_ ?_
  · rintro i x H hx ⟨ys, s, hD, hl, hR⟩
    have hi : i < xs.length := (List.getElem?_eq_some_iff.mp hx).1
    refine ⟨hw _, ?_⟩
    unfold tYes
    dsimp only
    rw [if_pos (show true = true from rfl)]
    refine hs i x H ys hx s hD _ fun y H4 s4 r4 => ?_
    refine ⟨ys, s4 _ _ hD, by omega, ys ++ [y], same_over nD (s.trans s4), upd_same, by rw [List.length_append, hl]; rfl, fun k z hz => ?_⟩
    have off : Pre.Off D H4 (upd H4 D (.lst (ys ++ [y]))) := fun b o nb h => by rw [upd_ne nb]; exact h
    by_cases hk : k < ys.length
    · rw [List.getElem?_append_left hk] at hz
      exact mono k z H _ (fun b o nb h => off b o nb (s4 b o h)) (hR k z hz)
    · rw [List.getElem?_append_right (by omega)] at hz
      have hk2 : k - ys.length = 0 := by
        have h2 := (List.getElem?_eq_some_iff.mp hz).1
        rw [List.length_singleton] at h2
        omega
      rw [hk2] at hz
      cases hz
      have ek : k = i := by omega
      rw [ek]
      exact mono i y H4 _ off r4
  · rintro H ⟨ys, s, hD, hl, hR⟩
    exact hd H ys s hD hl hR
/-- a list of lists of whole numbers -/
def RowsIn (H : Hp) (p : Addr) (rows : List (List Int)) : Prop := ∃ as : List Addr, H p = some (.lst (as.map V.ref)) ∧ as.length = rows.length ∧ ∀ (i : Nat) (a : Addr) (r : List Int), as[i]? = some a → rows[i]? = some r → H a = some (.lst (r.map V.int))
theorem RowsIn.same {H H' : Hp} {p : Addr} {rows : List (List Int)} (h : RowsIn H p rows) (s : Same H H') : RowsIn H' p rows := by
  obtain ⟨as, h1, h2, h3⟩ := h
  exact ⟨as, s _ _ h1, h2, fun i a r ha hr => s _ _ (h3 i a r ha hr)⟩
section
variable {X : Cx}
theorem huD {k : Nat} {A : Around} (r : Room k A) : A.units + 65 < cLine := by have := r.un; omega
theorem k_inD (K : PySem.W.Frag) (h : X.K = K) (hu : X.A.units + 65 < cLine) : OpR X (compareOp .In) (rInD K) := by subst h; exact op_inD hu
theorem k_notInD (K : PySem.W.Frag) (h : X.K = K) (hu : X.A.units + 65 < cLine) : OpR X (compareOp .NotIn) (rNotInD K) := by subst h; exact op_notInD hu
theorem k_indexD (K : PySem.W.Frag) (h : X.K = K) (hu : X.A.units + 65 < cLine) : MtR X "list.index" (rIndexD K) := by subst h; exact mt_indexD hu
end
/-- rows as data -/
def rowD (r : List Int) : PyData := .list (r.map PyData.int)
theorem rows_dp {K : PySem.W.Frag} {H : Hp} : ∀ {as : List Addr} {rows : List (List Int)}, as.length = rows.length → (∀ (i : Nat) (a : Addr) (r : List Int), as[i]? = some a → rows[i]? = some r → H a = some (.lst (r.map V.int))) → DpAll K H (as.map V.ref) (rows.map rowD)
  | [], [], _, _ => .nil
  | [], _ :: _, h, _ => by simp at h
  | _ :: _, [], h, _ => by simp at h
  | a :: as, r :: rows, h, k => .cons (.lst (.inl (.inl (k 0 a r rfl rfl))) (Pre.dp_ints r)) (rows_dp (by simpa using h) fun i t q ht hq => k (i + 1) t q (by simpa using ht) (by simpa using hq))
theorem rowD_eqv (r q : List Int) : PyData.eqv (rowD r) (rowD q) = decide (r = q) := by
  unfold rowD
  rw [PyData.eqv, eqv_ints]
theorem rows_shaped (rows : List (List Int)) : SeqAt.shaped (.list (rows.map rowD)) = true := by
  have h1 : ∀ l : List (List Int), PyData.canLayAll0 (l.map rowD) = true := fun l => by
    induction l with
    | nil => rfl
    | cons r l ih =>
      show (PyData.canLay0 (rowD r) && PyData.canLayAll0 (l.map rowD)) = true
      rw [ih]
      unfold rowD
      rw [PyData.canLay0, lay_ints]
      rfl
  have h2 : ∀ l : List (List Int), PyData.depthAll (l.map rowD) ≤ 1 := fun l => by
    induction l with
    | nil => simp [PyData.depthAll]
    | cons r l ih =>
      show PyData.depthAll (rowD r :: l.map rowD) ≤ 1
      rw [PyData.depthAll]
      unfold rowD at *
      rw [PyData.depth, depth_ints]
      omega
  show (PyData.canLay0 (.list (rows.map rowD)) && decide (PyData.depth (.list (rows.map rowD)) ≤ 64)) = true
  rw [Bool.and_eq_true]
  have := h2 rows
  exact ⟨by rw [PyData.canLay0]; exact h1 rows, decide_eq_true (by rw [PyData.depth]; omega)⟩
end My

namespace My
open PySem PySem.Spec PyProof.Rows L2 Pre
/-! ### min and max of a list of pairs of whole numbers -/
def pairD (p : Int × Int) : PyData := .tuple [.int p.1, .int p.2]
def ltP2 (p q : Int × Int) : Prop := p.1 < q.1 ∨ (p.1 = q.1 ∧ p.2 < q.2)
instance (p q : Int × Int) : Decidable (ltP2 p q) := by unfold ltP2; infer_instance
theorem pair_lt (p q : Int × Int) : PySem.W.dataLt (pairD p) (pairD q) = decide (ltP2 p q) := PySem.W.dataLt_ii p.1 p.2 q.1 q.2
theorem ltP2_trans {p q r : Int × Int} (h : ¬ ltP2 q p) (k : ¬ ltP2 r q) : ¬ ltP2 r p := by
  unfold ltP2 at *
  omega
def minP (p : Int × Int) (ps : List (Int × Int)) : Int × Int := ps.foldl (fun a y => if ltP2 y a then y else a) p
def maxP (p : Int × Int) (ps : List (Int × Int)) : Int × Int := ps.foldl (fun a y => if ltP2 a y then y else a) p
theorem minP_data : ∀ (ps : List (Int × Int)) (p : Int × Int), PySem.W.minD (pairD p) (ps.map pairD) = pairD (minP p ps)
  | [], _ => rfl
  | q :: ps, p => by
    show PySem.W.minD (if PySem.W.dataLt (pairD q) (pairD p) = true then pairD q else pairD p) (ps.map pairD) = pairD (minP (if ltP2 q p then q else p) ps)
    rw [pair_lt]
    by_cases h : ltP2 q p
    · rw [decide_eq_true h, if_pos rfl, if_pos h, minP_data ps q]
    · rw [decide_eq_false h, if_neg (by decide), if_neg h, minP_data ps p]
theorem maxP_data : ∀ (ps : List (Int × Int)) (p : Int × Int), PySem.W.maxD (pairD p) (ps.map pairD) = pairD (maxP p ps)
  | [], _ => rfl
  | q :: ps, p => by
    show PySem.W.maxD (if PySem.W.dataLt (pairD p) (pairD q) = true then pairD q else pairD p) (ps.map pairD) = pairD (maxP (if ltP2 p q then q else p) ps)
    rw [pair_lt]
    by_cases h : ltP2 p q
    · rw [decide_eq_true h, if_pos rfl, if_pos h, maxP_data ps q]
    · rw [decide_eq_false h, if_neg (by decide), if_neg h, maxP_data ps p]
theorem minP_spec : ∀ (ps : List (Int × Int)) (p : Int × Int), minP p ps ∈ p :: ps ∧ ∀ q ∈ p :: ps, ¬ ltP2 q (minP p ps)
  | [], p => ⟨List.mem_cons_self, fun q hq => by
      rw [List.mem_singleton.mp hq]
      show ¬ ltP2 p p
      unfold ltP2
      omega⟩
  | r :: ps, p => by
    show minP (if ltP2 r p then r else p) ps ∈ _ ∧ ∀ q ∈ p :: r :: ps, ¬ ltP2 q (minP (if ltP2 r p then r else p) ps)
    by_cases h : ltP2 r p
    · rw [if_pos h]
      obtain ⟨h1, h2⟩ := minP_spec ps r
      refine ⟨List.mem_cons_of_mem _ h1, fun q hq => ?_⟩
      rcases List.mem_cons.mp hq with rfl | hq
      · have := h2 r List.mem_cons_self
        exact fun z => this (by unfold ltP2 at *; omega)
      · exact h2 q hq
    · rw [if_neg h]
      obtain ⟨h1, h2⟩ := minP_spec ps p
      refine ⟨?_, fun q hq => ?_⟩
      · rcases List.mem_cons.mp h1 with e | e
        · rw [e]; exact List.mem_cons_self
        · exact List.mem_cons_of_mem _ (List.mem_cons_of_mem _ e)
      · rcases List.mem_cons.mp hq with rfl | hq
        · exact h2 q List.mem_cons_self
        · rcases List.mem_cons.mp hq with rfl | hq
          · have := h2 p List.mem_cons_self
            exact fun z => this (by unfold ltP2 at *; omega)
          · exact h2 q (List.mem_cons_of_mem _ hq)
theorem maxP_spec : ∀ (ps : List (Int × Int)) (p : Int × Int), maxP p ps ∈ p :: ps ∧ ∀ q ∈ p :: ps, ¬ ltP2 (maxP p ps) q
  | [], p => ⟨List.mem_cons_self, fun q hq => by
      rw [List.mem_singleton.mp hq]
      show ¬ ltP2 p p
      unfold ltP2
      omega⟩
  | r :: ps, p => by
    show maxP (if ltP2 p r then r else p) ps ∈ _ ∧ ∀ q ∈ p :: r :: ps, ¬ ltP2 (maxP (if ltP2 p r then r else p) ps) q
    by_cases h : ltP2 p r
    · rw [if_pos h]
      obtain ⟨h1, h2⟩ := maxP_spec ps r
      refine ⟨List.mem_cons_of_mem _ h1, fun q hq => ?_⟩
      rcases List.mem_cons.mp hq with rfl | hq
      · have := h2 r List.mem_cons_self
        exact fun z => this (by unfold ltP2 at *; omega)
      · exact h2 q hq
    · rw [if_neg h]
      obtain ⟨h1, h2⟩ := maxP_spec ps p
      refine ⟨?_, fun q hq => ?_⟩
      · rcases List.mem_cons.mp h1 with e | e
        · rw [e]; exact List.mem_cons_self
        · exact List.mem_cons_of_mem _ (List.mem_cons_of_mem _ e)
      · rcases List.mem_cons.mp hq with rfl | hq
        · exact h2 q List.mem_cons_self
        · rcases List.mem_cons.mp hq with rfl | hq
          · have := h2 p List.mem_cons_self
            exact fun z => this (by unfold ltP2 at *; omega)
          · exact h2 q (List.mem_cons_of_mem _ hq)
theorem pairs_alike (ps : List (Int × Int)) : PySem.W.AlikeAll (ps.map pairD) := by
  refine ⟨fun x hx y hy => ?_, fun x hx => ?_⟩
  · obtain ⟨p, _, rfl⟩ := List.mem_map.mp hx
    obtain ⟨q, _, rfl⟩ := List.mem_map.mp hy
    rfl
  · obtain ⟨p, _, rfl⟩ := List.mem_map.mp hx
    exact fun z => nomatch z
theorem pairs_lay : ∀ ps : List (Int × Int), PyData.canLayAll0 (ps.map pairD) = true
  | [] => rfl
  | p :: ps => by simp [PyData.canLayAll0, PyData.canLay0, pairD, pairs_lay ps]
theorem pairs_depth : ∀ ps : List (Int × Int), PyData.depthAll (ps.map pairD) ≤ 2
  | [] => by simp [PyData.depthAll]
  | p :: ps => by
    have := pairs_depth ps
    simp only [List.map_cons, PyData.depthAll, pairD, PyData.depth]
    omega
/-- a list of pairs, at a -/
def PairsAt (K : PySem.W.Frag) (H : Hp) (a : Addr) (ps : List (Int × Int)) : Prop := ∃ as : List Addr, SqL K H a (as.map V.ref) ∧ as.length = ps.length ∧ ∀ (i : Nat) (t : Addr) (p : Int × Int), as[i]? = some t → ps[i]? = some p → SqT K H t [.int p.1, .int p.2]
theorem pairs_dp {K : PySem.W.Frag} {H : Hp} : ∀ {as : List Addr} {ps : List (Int × Int)}, as.length = ps.length → (∀ (i : Nat) (t : Addr) (p : Int × Int), as[i]? = some t → ps[i]? = some p → SqT K H t [.int p.1, .int p.2]) → DpAll K H (as.map V.ref) (ps.map pairD)
  | [], [], _, _ => .nil
  | [], _ :: _, h, _ => by simp at h
  | _ :: _, [], h, _ => by simp at h
  | a :: as, p :: ps, h, k => .cons (.tup (k 0 a p rfl rfl) (.cons (.int _) (.cons (.int _) .nil))) (pairs_dp (by simpa using h) fun i t q ht hq => k (i + 1) t q (by simpa using ht) (by simpa using hq))
def rMnP (K : PySem.W.Frag) (best : Int × Int → List (Int × Int) → Int × Int) : List V → Hp → VK → Prop := fun xs H Q => ∃ (a : Addr) (p : Int × Int) (ps : List (Int × Int)), xs = [.ref a] ∧ PairsAt K H a (p :: ps) ∧ ∀ t, SqT K H t [.int (best p ps).1, .int (best p ps).2] → Q (.ref t) H
section
variable {X : Cx} {K : PySem.W.Frag}
theorem pick {H : Hp} {s : Shared} {as : List Addr} {ps : List (Int × Int)} {its : List Value} {i : Nat} {v : Value} {h' : Heap} {bs cs : List Addr} {b : Int × Int} (hl : as.length = ps.length)
    (hT : ∀ (i : Nat) (t : Addr) (p : Int × Int), as[i]? = some t → ps[i]? = some p → SqT K H t [.int p.1, .int p.2]) (rv : Vals (as.map V.ref) its) (hr : ReadsAll s.heap its (ps.map pairD) cs) (hv : its.toArray[i]? = some v) (rd : Reads h' v (pairD b) bs)
    (hk : ∀ b o, s.heap.get? b = some o → h'.get? b = some o) : ∃ t, v = .ref t ∧ SqT K H t [.int b.1, .int b.2] := by
  have hv' : its[i]? = some v := by simpa using hv
  have hil : i < its.length := (List.getElem?_eq_some_iff.mp hv').1
  have hvl := rv.length
  rw [List.length_map] at hvl
  obtain ⟨u, hu, ru⟩ := rv.get (show (as.map V.ref)[i]? = some (.ref (as[i]'(by omega))) by rw [List.getElem?_map, List.getElem?_eq_getElem (by omega)]; rfl)
  rw [hv'] at hu
  cases hu
  have hp : ps[i]? = some (ps[i]'(by omega)) := List.getElem?_eq_getElem (by omega)
  obtain ⟨ds, r1, _, _, _⟩ := PySem.W.readsAll_at hr i v hv'
  have e1 : (ps.map pairD).getD i .none = pairD (ps[i]'(by omega)) := by
    rw [List.getD_eq_getElem?_getD, List.getElem?_map, hp]
    rfl
  rw [e1] at r1
  have e2 := PySem.SeqAt.Reads.unique (pairD b) _ v _ _ (by simp [pairD, PyData.canLay0, PyData.canLayAll0]) rd (Reads.keeps hk r1)
  have e3 : b = ps[i]'(by omega) := by
    unfold pairD at e2
    injection e2 with e2
    injection e2 with e4 e5
    injection e5 with e5 _
    injection e4 with e4
    injection e5 with e5
    exact Prod.ext e4 e5
  refine ⟨as[i]'(by omega), ru, ?_⟩
  rw [e3]
  exact hT i _ _ (List.getElem?_eq_getElem (by omega)) hp
theorem k_minP (K : PySem.W.Frag) (h : X.K = K) (hc : X.calm = true) (hu : X.A.units + 65 < cLine) : CallR X (.builtin "min") (rMnP K minP) := by
  subst h
  intro pins s σ H xs us Q I r h
  obtain ⟨a, p, ps, rfl, ⟨as, hS, hl, hT⟩, q⟩ := h
  obtain ⟨its, rv, hL, _⟩ := I.list hS
  rw [Vals.ref1 r]
  obtain ⟨cs, hr⟩ := Dp.readsAll I _ _ its (pairs_dp hl hT) rv
  have hd := pairs_depth (p :: ps)
  refine PySem.W.min_list_data (I.ok.hd hc) hL.isList (show ReadsAll s.heap its.toArray.toList (pairD p :: ps.map pairD) cs by simpa using hr) (pairs_alike (p :: ps)) (by rw [List.map_cons] at hd; omega) fun i v h' tk bs hv rd hk => ?_
  rw [minP_data] at rd
  obtain ⟨t, rfl, ht⟩ := pick hl hT rv hr hv rd hk
  exact ⟨.ref t, H, I.kept hk, rfl, q t ht⟩
theorem k_maxP (K : PySem.W.Frag) (h : X.K = K) (hc : X.calm = true) (hu : X.A.units + 65 < cLine) : CallR X (.builtin "max") (rMnP K maxP) := by
  subst h
  intro pins s σ H xs us Q I r h
  obtain ⟨a, p, ps, rfl, ⟨as, hS, hl, hT⟩, q⟩ := h
  obtain ⟨its, rv, hL, _⟩ := I.list hS
  rw [Vals.ref1 r]
  obtain ⟨cs, hr⟩ := Dp.readsAll I _ _ its (pairs_dp hl hT) rv
  have hd := pairs_depth (p :: ps)
  refine PySem.W.max_list_data (I.ok.hd hc) hL.isList (show ReadsAll s.heap its.toArray.toList (pairD p :: ps.map pairD) cs by simpa using hr) (pairs_alike (p :: ps)) (by rw [List.map_cons] at hd; omega) fun i v h' tk bs hv rd hk => ?_
  rw [maxP_data] at rd
  obtain ⟨t, rfl, ht⟩ := pick hl hT rv hr hv rd hk
  exact ⟨.ref t, H, I.kept hk, rfl, q t ht⟩
theorem huM {k : Nat} {A : Around} (r : Room k A) : A.units + 65 < cLine := by have := r.un; omega
end
end My

namespace My
open PySem PySem.Spec PyProof.Rows L2 Pre
/-! ### data in a heap: what is told of a value by lists and tuples that stand there (none of them frozen) -/
mutual
inductive Dt (H : Hp) : V → PyData → Prop
  | non : Dt H .non .none
  | bl (b : Bool) : Dt H (.bl b) (.bool b)
  | int (n : Int) : Dt H (.int n) (.int n)
  | str (x : Str) : Dt H (.str x) (.str x)
  | lst {a : Addr} {xs : List V} {ds : List PyData} : H a = some (.lst xs) → DtA H xs ds → Dt H (.ref a) (.list ds)
  | tup {a : Addr} {xs : List V} {ds : List PyData} : H a = some (.tup xs) → DtA H xs ds → Dt H (.ref a) (.tuple ds)
inductive DtA (H : Hp) : List V → List PyData → Prop
  | nil : DtA H [] []
  | cons {v : V} {vs : List V} {d : PyData} {ds : List PyData} : Dt H v d → DtA H vs ds → DtA H (v :: vs) (d :: ds)
end
mutual
theorem Dt.same {H H' : Hp} (s : Same H H') : ∀ {d : PyData} {v : V}, Dt H v d → Dt H' v d
  | .none, _, h => by cases h; exact .non
  | .bool _, _, h => by cases h; exact .bl _
  | .int _, _, h => by cases h; exact .int _
  | .str _, _, h => by cases h; exact .str _
  | .list _, _, h => by cases h with | lst a b => exact .lst (s _ _ a) (DtA.same s b)
  | .tuple _, _, h => by cases h with | tup a b => exact .tup (s _ _ a) (DtA.same s b)
  | .dict _, _, h => nomatch h
theorem DtA.same {H H' : Hp} (s : Same H H') : ∀ {ds : List PyData} {vs : List V}, DtA H vs ds → DtA H' vs ds
  | [], _, h => by cases h; exact .nil
  | _ :: _, _, h => by cases h with | cons a b => exact .cons (Dt.same s a) (DtA.same s b)
end
mutual
theorem Dt.dp {K : PySem.W.Frag} {H : Hp} : ∀ {d : PyData} {v : V}, Dt H v d → Dp K H v d
  | .none, _, h => by cases h; exact .non
  | .bool _, _, h => by cases h; exact .bl _
  | .int _, _, h => by cases h; exact .int _
  | .str _, _, h => by cases h; exact .str _
  | .list _, _, h => by cases h with | lst a b => exact .lst (.inl (.inl a)) (DtA.dp b)
  | .tuple _, _, h => by cases h with | tup a b => exact .tup (.inl (.inl a)) (DtA.dp b)
  | .dict _, _, h => nomatch h
theorem DtA.dp {K : PySem.W.Frag} {H : Hp} : ∀ {ds : List PyData} {vs : List V}, DtA H vs ds → DpAll K H vs ds
  | [], _, h => by cases h; exact .nil
  | _ :: _, _, h => by cases h with | cons a b => exact .cons (Dt.dp a) (DtA.dp b)
end
theorem DtA.len {H : Hp} : ∀ {ds : List PyData} {vs : List V}, DtA H vs ds → vs.length = ds.length
  | [], _, h => by cases h; rfl
  | _ :: _, _, h => by cases h with | cons a b => rw [List.length_cons, List.length_cons, DtA.len b]
theorem DtA.app {H : Hp} : ∀ {ds : List PyData} {vs : List V} {es : List PyData} {us : List V}, DtA H vs ds → DtA H us es → DtA H (vs ++ us) (ds ++ es)
  | [], _, _, _, h, k => by cases h; exact k
  | _ :: _, _, _, _, h, k => by cases h with | cons a b => exact .cons a (DtA.app b k)
theorem DtA.get {H : Hp} : ∀ {ds : List PyData} {vs : List V} {i : Nat} {d : PyData}, DtA H vs ds → ds[i]? = some d → ∃ v, vs[i]? = some v ∧ Dt H v d
  | [], _, _, _, _, k => by simp at k
  | _ :: _, _, 0, _, h, k => by
    cases h with
    | cons a b => rw [List.getElem?_cons_zero] at k; cases k; exact ⟨_, rfl, a⟩
  | _ :: _, _, i + 1, _, h, k => by
    cases h with
    | cons a b => rw [List.getElem?_cons_succ] at k; rw [List.getElem?_cons_succ]; exact DtA.get b k
theorem DtA.got {H : Hp} {ds : List PyData} {vs : List V} {i : Nat} {v : V} (h : DtA H vs ds) (k : vs[i]? = some v) : ∃ d, ds[i]? = some d ∧ Dt H v d := by
  have hi := (List.getElem?_eq_some_iff.mp k).1
  have hl := h.len
  obtain ⟨u, hu, d⟩ := h.get (List.getElem?_eq_getElem (show i < ds.length by omega))
  rw [k] at hu
  cases hu
  exact ⟨_, List.getElem?_eq_getElem (by omega), d⟩
theorem DtA.take {H : Hp} : ∀ {ds : List PyData} {vs : List V} (n : Nat), DtA H vs ds → DtA H (vs.take n) (ds.take n)
  | _, _, 0, _ => .nil
  | [], _, _ + 1, h => by cases h; exact .nil
  | _ :: _, _, n + 1, h => by cases h with | cons a b => exact .cons a (DtA.take n b)
theorem DtA.drop {H : Hp} : ∀ {ds : List PyData} {vs : List V} (n : Nat), DtA H vs ds → DtA H (vs.drop n) (ds.drop n)
  | _, _, 0, h => h
  | [], _, _ + 1, h => by cases h; exact .nil
  | _ :: _, _, n + 1, h => by cases h with | cons a b => exact DtA.drop n b
theorem DtA.rev {H : Hp} : ∀ {ds : List PyData} {vs : List V}, DtA H vs ds → DtA H vs.reverse ds.reverse
  | [], _, h => by cases h; exact .nil
  | _ :: _, _, h => by
    cases h with
    | cons a b => rw [List.reverse_cons, List.reverse_cons]; exact DtA.app (DtA.rev b) (.cons a .nil)
theorem DtA.ints {H : Hp} : ∀ ns : List Int, DtA H (ns.map V.int) (ns.map PyData.int)
  | [] => .nil
  | n :: r => .cons (.int n) (DtA.ints r)
theorem DtA.intsE {H : Hp} : ∀ {ns : List Int} {vs : List V}, DtA H vs (ns.map PyData.int) → vs = ns.map V.int
  | [], _, h => by cases h; rfl
  | n :: r, _, h => by
    cases h with
    | cons a b => cases a; rw [DtA.intsE b]; rfl
/-- a list of whole numbers -/
theorem Dt.ints {H : Hp} {a : Addr} {ns : List Int} (h : H a = some (.lst (ns.map V.int))) : Dt H (.ref a) (rowD ns) := .lst h (DtA.ints ns)
theorem Dt.intsE {H : Hp} {v : V} {ns : List Int} (h : Dt H v (rowD ns)) : ∃ a, v = .ref a ∧ H a = some (.lst (ns.map V.int)) := by
  unfold rowD at h
  cases h with
  | lst a b => rw [DtA.intsE b] at a; exact ⟨_, rfl, a⟩
theorem Dt.listE {H : Hp} {v : V} {ds : List PyData} (h : Dt H v (.list ds)) : ∃ a xs, v = .ref a ∧ H a = some (.lst xs) ∧ DtA H xs ds := by
  cases h with
  | lst a b => exact ⟨_, _, rfl, a, b⟩
theorem Dt.tupE {H : Hp} {v : V} {ds : List PyData} (h : Dt H v (.tuple ds)) : ∃ a xs, v = .ref a ∧ H a = some (.tup xs) ∧ DtA H xs ds := by
  cases h with
  | tup a b => exact ⟨_, _, rfl, a, b⟩
/-! ### what is owned (and changes) is left out -/
def rs (S : List Addr) (H : Hp) : Hp := fun a => if a ∈ S then none else H a
theorem rs_nil (H : Hp) : rs [] H = H := by funext a; simp [rs]
theorem rs_in {S : List Addr} {H : Hp} {a : Addr} (h : a ∈ S) : rs S H a = none := if_pos h
theorem rs_out {S : List Addr} {H : Hp} {a : Addr} (h : a ∉ S) : rs S H a = H a := if_neg h
theorem rs_some {S : List Addr} {H : Hp} {a : Addr} {o : HO} (h : rs S H a = some o) : a ∉ S ∧ H a = some o := by
  by_cases m : a ∈ S
  · rw [rs_in m] at h; cases h
  · rw [rs_out m] at h; exact ⟨m, h⟩
theorem rs_le {S : List Addr} {H : Hp} : Same (rs S H) H := fun _ _ h => (rs_some h).2
theorem rs_same {S : List Addr} {H H' : Hp} (s : Same H H') : Same (rs S H) (rs S H') := fun b o h => by
  obtain ⟨m, e⟩ := rs_some h
  rw [rs_out m]
  exact s b o e
theorem rs_upd {S : List Addr} {H : Hp} {p : Addr} {o : HO} (h : p ∈ S) : rs S (L2.upd H p o) = rs S H := by
  funext a
  by_cases m : a ∈ S
  · rw [rs_in m, rs_in m]
  · rw [rs_out m, rs_out m, upd_ne (fun e => m (by rw [e]; exact h))]
/-- all of them stand -/
def Has (S : List Addr) (H : Hp) : Prop := ∀ a ∈ S, ∃ o, H a = some o
theorem Has.nil {H : Hp} : Has [] H := fun _ h => nomatch h
theorem Has.same {S : List Addr} {H H' : Hp} (h : Has S H) (s : Same H H') : Has S H' := fun a m => by
  obtain ⟨o, e⟩ := h a m
  exact ⟨o, s a o e⟩
theorem Has.cons {S : List Addr} {H : Hp} {p : Addr} {o : HO} (h : Has S H) (e : H p = some o) : Has (p :: S) H := fun a m => by
  rcases List.mem_cons.mp m with rfl | m
  · exact ⟨o, e⟩
  · exact h a m
theorem Has.upd {S : List Addr} {H : Hp} {p : Addr} {o : HO} (h : Has S H) : Has S (L2.upd H p o) := fun a m => by
  by_cases e : a = p
  · subst e; exact ⟨o, upd_same⟩
  · rw [upd_ne e]; exact h a m
theorem Has.out {S : List Addr} {H : Hp} {p : Addr} (h : Has S H) (n : H p = none) : p ∉ S := fun m => by
  obtain ⟨o, e⟩ := h p m
  rw [n] at e
  cases e
theorem GenAt.has {H : Hp} {g : Addr} {n : Nat} (h : GenAt H g n) : Has [g] H := by
  obtain ⟨x, y, z, e, _⟩ := h
  exact Has.nil.cons e
/-- all but what is owned stays -/
def Sta (S : List Addr) (H H' : Hp) : Prop := Same (rs S H) (rs S H')
theorem Sta.of {S : List Addr} {H H' : Hp} (s : Same H H') : Sta S H H' := rs_same s
theorem Sta.trans {S : List Addr} {H H1 H2 : Hp} (a : Sta S H H1) (b : Sta S H1 H2) : Sta S H H2 := fun c o h => b c o (a c o h)
theorem Sta.at_ {S : List Addr} {H H' : Hp} (s : Sta S H H') {a : Addr} {o : HO} (m : a ∉ S) (h : H a = some o) : H' a = some o := (rs_some (s a o (by rw [rs_out m]; exact h))).2
theorem Sta.upd {S : List Addr} {H : Hp} {p : Addr} {o : HO} (h : p ∈ S) : Sta S H (L2.upd H p o) := fun c u e => by rw [rs_upd h]; exact e
theorem Sta.more {S : List Addr} {H H' : Hp} {p : Addr} (s : Sta S H H') : Sta (p :: S) H H' := fun c o h => by
  obtain ⟨m, e⟩ := rs_some h
  have m2 : c ∉ S := fun z => m (List.mem_cons_of_mem _ z)
  rw [rs_out m]
  exact s.at_ m2 e
theorem But.sta {g : Addr} {H H' : Hp} (b : But g H H') : Sta [g] H H' := fun c o h => by
  obtain ⟨m, e⟩ := rs_some h
  rw [rs_out m]
  exact b c o (fun z => m (by rw [z]; exact List.mem_cons_self)) e
/-- what was there ahead of a new thing does not speak of it -/
theorem under {S : List Addr} {H H' : Hp} {p : Addr} (n : H p = none) (s : Same H H') : Same (rs S H) (rs (p :: S) H') := fun c o h => by
  obtain ⟨m, e⟩ := rs_some h
  rw [rs_out (fun z => by
    rcases List.mem_cons.mp z with rfl | z
    · rw [n] at e; cases e
    · exact m z)]
  exact s c o e
theorem over {S : List Addr} {H : Hp} {p : Addr} : Same (rs (p :: S) H) (rs S H) := fun c o h => by
  obtain ⟨m, e⟩ := rs_some h
  rw [rs_out (fun z => m (List.mem_cons_of_mem _ z))]
  exact e
/-! ### a new list, a new tuple, a sum of lists -/
theorem dt_new {S : List Addr} {H : Hp} {p : Addr} {xs : List V} {ds : List PyData} (hS : Has S H) (n : H p = none) (h : DtA (rs S H) xs ds) : Dt (rs S (upd H p (.lst xs))) (.ref p) (.list ds) :=
  .lst (by rw [rs_out (hS.out n)]; exact upd_same) (h.same (rs_same (same_upd n)))
theorem dt_newT {S : List Addr} {H : Hp} {p : Addr} {xs : List V} {ds : List PyData} (hS : Has S H) (n : H p = none) (h : DtA (rs S H) xs ds) : Dt (rs S (upd H p (.tup xs))) (.ref p) (.tuple ds) :=
  .tup (by rw [rs_out (hS.out n)]; exact upd_same) (h.same (rs_same (same_upd n)))
theorem d_lst {S : List Addr} {H : Hp} {xs : List V} {ds : List PyData} {Q : VK} (hS : Has S H) (h : DtA (rs S H) xs ds) (hz : xs.length ≤ sizeLine) (k : ∀ p H', Same H H' → H p = none → H' p = some (.lst xs) → Dt (rs S H') (.ref p) (.list ds) → Q (.ref p) H') : xs.length ≤ sizeLine ∧ ∀ p, H p = none → Q (.ref p) (upd H p (.lst xs)) :=
  ⟨hz, fun p n => k p _ (same_upd n) n upd_same (dt_new hS n h)⟩
theorem d_tup {S : List Addr} {H : Hp} {xs : List V} {ds : List PyData} {Q : VK} (hS : Has S H) (h : DtA (rs S H) xs ds) (hz : xs.length ≤ sizeLine) (k : ∀ p H', Same H H' → H p = none → H' p = some (.tup xs) → Dt (rs S H') (.ref p) (.tuple ds) → Q (.ref p) H') : xs.length ≤ sizeLine ∧ ∀ p, H p = none → Q (.ref p) (upd H p (.tup xs)) :=
  ⟨hz, fun p n => k p _ (same_upd n) n upd_same (dt_newT hS n h)⟩
theorem d_cat {S : List Addr} {H : Hp} {v w : V} {ds es : List PyData} {Q : VK} (hS : Has S H) (hv : Dt (rs S H) v (.list ds)) (hw : Dt (rs S H) w (.list es)) (hz : ds.length + es.length ≤ sizeLine) (k : ∀ p H', Same H H' → H p = none → Dt (rs S H') (.ref p) (.list (ds ++ es)) → Q (.ref p) H') : rCat v w H Q := by
  obtain ⟨a, xs, rfl, ha, hx⟩ := hv.listE
  obtain ⟨b, ys, rfl, hb, hy⟩ := hw.listE
  exact ⟨a, b, xs, ys, rfl, rfl, (rs_some ha).2, (rs_some hb).2, by rw [hx.len, hy.len]; exact hz, fun p n => k p _ (same_upd n) n (dt_new hS n (hx.app hy))⟩
theorem d_eq {K : PySem.W.Frag} {H : Hp} {v w : V} {d e : PyData} {Q : VK} (hv : Dt H v d) (hw : Dt H w e) (sd : SeqAt.shaped d = true) (se : SeqAt.shaped e = true) (q : Q (.bl (PyData.eqv d e)) H) : rEqD K v w H Q := ⟨d, e, hv.dp, hw.dp, sd, se, q⟩
theorem d_ne {K : PySem.W.Frag} {H : Hp} {v w : V} {d e : PyData} {Q : VK} (hv : Dt H v d) (hw : Dt H w e) (sd : SeqAt.shaped d = true) (se : SeqAt.shaped e = true) (q : Q (.bl (!PyData.eqv d e)) H) : rNeD K v w H Q := ⟨d, e, hv.dp, hw.dp, sd, se, q⟩
/-! ### comprehensions -/
/-- what comes of an item: nothing, or data -/
def Out (S : List Addr) (H : Hp) : Option PyData → Option V → Prop
  | some d, some v => Dt (rs S H) v d
  | none, none => True
  | _, _ => False
def accP (S : List Addr) (H1 : Hp) (D : Addr) (ds : List PyData) (H : Hp) : Prop := Same H1 H ∧ ∃ ys, H D = some (.lst ys) ∧ DtA (rs (D :: S) H) ys ds
theorem acc_step {S : List Addr} {H1 : Hp} {D : Addr} {sel : List (Option PyData)} {i : Nat} {o : Option PyData} {H H4 : Hp} (nD : H1 D = none) (ho : sel[i]? = some o) (hz : sel.length < sizeLine) (h : accP S H1 D ((sel.take i).filterMap id) H) (s4 : Same H H4) :
    ∀ y : Option V, Out (D :: S) H4 o y → match y with
      | some v => ∃ acc, H4 D = some (.lst acc) ∧ acc.length < sizeLine ∧ accP S H1 D ((sel.take (i + 1)).filterMap id) (upd H4 D (.lst (acc ++ [v])))
      | none => accP S H1 D ((sel.take (i + 1)).filterMap id) H4 := by
  obtain ⟨s, ys, hD, hy⟩ := h
  intro y hO
  rw [take_fm ho]
  cases o with
  | none =>
    cases y with
    | none => exact ⟨s.trans s4, ys, s4 _ _ hD, by simpa using hy.same (rs_same s4)⟩
    | some v => exact absurd hO (fun z => z)
  | some d =>
    cases y with
    | none => exact absurd hO (fun z => z)
    | some v =>
      refine ⟨ys, s4 _ _ hD, ?_, same_over nD (s.trans s4), ys ++ [v], upd_same, ?_⟩
      · rw [hy.len]
        exact Nat.lt_of_le_of_lt (fm_len sel i) hz
      · rw [rs_upd List.mem_cons_self]
        exact (hy.same (rs_same s4)).app (.cons hO .nil)
theorem acc_end {S : List Addr} {H1 : Hp} {D : Addr} {ds : List PyData} {H : Hp} (hS : Has S H1) (nD : H1 D = none) (h : accP S H1 D ds H) : Dt (rs S H) (.ref D) (.list ds) := by
  obtain ⟨s, ys, hD, hy⟩ := h
  exact .lst (by rw [rs_out (hS.out nD)]; exact hD) (hy.same over)
theorem lc_dR {lo : Int} {n : Nat} {j : Nat} {tt : TT} {te : TE} {vs : List Nat} {σ : L2.St} {H1 : Hp} {D : Addr} {Qd : Hp → Prop} {S : List Addr} (hS : Has S H1) (sel : List (Option PyData)) (nD : H1 D = none) (hlen : sel.length = n) (hz : n < sizeLine)
    (hw : ∀ x, wipe ((wipe σ vs).set j (some x)) vs = wipe σ vs)
    (hs : ∀ (i : Nat) (o : Option PyData) (H' : Hp), i < n → sel[i]? = some o → Same H1 H' → Has (D :: S) H' → ∀ Qt : Option V → Hp → Prop, (∀ y H'', Same H' H'' → Out (D :: S) H'' o y → Qt y H'') →
      tt ((wipe σ vs).set j (some (.int (lo + (i : Int))))) H' fun b H3 => if b = true then te ((wipe σ vs).set j (some (.int (lo + (i : Int))))) H3 fun y H4 => Qt (some y) H4 else Qt none H3)
    (hd : ∀ H', Same H1 H' → H' D ≠ none → Dt (rs S H') (.ref D) (.list (sel.filterMap id)) → Qd H') :
    ∃ W : Nat → Nat → Hp → Prop, (∃ m, W 0 m (upd H1 D (.lst []))) ∧ ∀ i m H, W i m H →
      ((Itr lo n).stop i H ∧ Qd H) ∨ ((Itr lo n).go i H ∧ ∃ Nx : Hp → Prop, (∀ H', Nx H' → ∃ m', m' < m ∧ W (i + 1) m' H') ∧ ∀ x H', (Itr lo n).yld i H x H' → gName j x (wipe σ vs) H' fun σ2 H2 => wipe σ2 vs = wipe σ vs ∧ tt σ2 H2 fun b H3 =>
        if b = true then te σ2 H3 fun y H4 => ∃ acc, H4 D = some (.lst acc) ∧ acc.length < sizeLine ∧ Nx (upd H4 D (.lst (acc ++ [y]))) else Nx H3) := by
  refine lc_range (lo := lo) (n := n) (fun i H => accP S H1 D ((sel.take i).filterMap id) H) ⟨same_upd nD, [], upd_same, .nil⟩ ?_ ?_
  · rintro i H hi h
    refine ⟨hw _, ?_⟩
    have ho : sel[i]? = some (sel[i]'(by omega)) := List.getElem?_eq_getElem (by omega)
    obtain ⟨s, ys, hD, hy⟩ := id h
    exact hs i _ H hi ho s ((hS.same s).cons hD) (fun o H4 => match o with
      | some y => ∃ acc, H4 D = some (.lst acc) ∧ acc.length < sizeLine ∧ accP S H1 D ((sel.take (i + 1)).filterMap id) (upd H4 D (.lst (acc ++ [y])))
      | none => accP S H1 D ((sel.take (i + 1)).filterMap id) H4) fun y H4 s4 hO => acc_step nD ho (by omega) h s4 y hO
  · rintro H h
    rw [← hlen, List.take_length] at h
    refine hd H h.1 ?_ (acc_end hS nD h)
    obtain ⟨_, ys, hD, _⟩ := h
    rw [hD]
    exact fun z => nomatch z
theorem lc_dL {K : PySem.W.Frag} {a : Addr} {xs : List V} {j : Nat} {tt : TT} {te : TE} {vs : List Nat} {σ : L2.St} {H1 : Hp} {D : Addr} {Qd : Hp → Prop} {S : List Addr} (hS : Has S H1) (sel : List (Option PyData)) (nD : H1 D = none) (hA : SqL K H1 a xs) (hlen : sel.length = xs.length) (hz : xs.length < sizeLine)
    (hw : ∀ x, wipe ((wipe σ vs).set j (some x)) vs = wipe σ vs)
    (hs : ∀ (i : Nat) (x : V) (o : Option PyData) (H' : Hp), xs[i]? = some x → sel[i]? = some o → Same H1 H' → Has (D :: S) H' → ∀ Qt : Option V → Hp → Prop, (∀ y H'', Same H' H'' → Out (D :: S) H'' o y → Qt y H'') →
      tt ((wipe σ vs).set j (some x)) H' fun b H3 => if b = true then te ((wipe σ vs).set j (some x)) H3 fun y H4 => Qt (some y) H4 else Qt none H3)
    (hd : ∀ H', Same H1 H' → H' D ≠ none → Dt (rs S H') (.ref D) (.list (sel.filterMap id)) → Qd H') :
    ∃ W : Nat → Nat → Hp → Prop, (∃ m, W 0 m (upd H1 D (.lst []))) ∧ ∀ i m H, W i m H →
      ((Itl K a).stop i H ∧ Qd H) ∨ ((Itl K a).go i H ∧ ∃ Nx : Hp → Prop, (∀ H', Nx H' → ∃ m', m' < m ∧ W (i + 1) m' H') ∧ ∀ x H', (Itl K a).yld i H x H' → gName j x (wipe σ vs) H' fun σ2 H2 => wipe σ2 vs = wipe σ vs ∧ tt σ2 H2 fun b H3 =>
        if b = true then te σ2 H3 fun y H4 => ∃ acc, H4 D = some (.lst acc) ∧ acc.length < sizeLine ∧ Nx (upd H4 D (.lst (acc ++ [y]))) else Nx H3) := by
  refine lc_list (K := K) (a := a) (xs := xs) (fun i H => accP S H1 D ((sel.take i).filterMap id) H) ⟨same_upd nD, [], upd_same, .nil⟩ (fun i H _ p => p.1.seq hA) ?_ ?_
  · rintro i x H hx h
    refine ⟨hw _, ?_⟩
    have hi := (List.getElem?_eq_some_iff.mp hx).1
    have ho : sel[i]? = some (sel[i]'(by omega)) := List.getElem?_eq_getElem (by omega)
    obtain ⟨s, ys, hD, hy⟩ := id h
    exact hs i x _ H hx ho s ((hS.same s).cons hD) (fun o H4 => match o with
      | some y => ∃ acc, H4 D = some (.lst acc) ∧ acc.length < sizeLine ∧ accP S H1 D ((sel.take (i + 1)).filterMap id) (upd H4 D (.lst (acc ++ [y])))
      | none => accP S H1 D ((sel.take (i + 1)).filterMap id) H4) fun y H4 s4 hO => acc_step nD ho (by omega) h s4 y hO
  · rintro H h
    rw [← hlen, List.take_length] at h
    refine hd H h.1 ?_ (acc_end hS nD h)
    obtain ⟨_, ys, hD, _⟩ := h
    rw [hD]
    exact fun z => nomatch z
/-- maps: each item's data -/
theorem sel_map {α : Type} (l : List α) (f : α → PyData) : (l.map fun x => some (f x)).filterMap id = l.map f := by
  induction l with
  | nil => rfl
  | cons x l ih =>
    show f x :: (l.map fun x => some (f x)).filterMap id = _
    rw [ih]
    rfl
/-- over any walk -/
theorem lc_dW {J : It} {n : Nat} {G : Hp → Prop} {Y : Nat → Hp → V → Hp → Prop} (w : Walk J n G Y) {g : TG} {tt : TT} {te : TE} {vs : List Nat} {σ : L2.St} {H1 : Hp} {D : Addr} {Qd : Hp → Prop} {S : List Addr} (hS : Has S H1) (sel : List (Option PyData)) (nD : H1 D = none) (hlen : sel.length = n) (hz : n < sizeLine)
    (hG : ∀ H', Same H1 H' → G H')
    (hs : ∀ (i : Nat) (o : Option PyData) (H0 : Hp) (x : V) (H' : Hp), i < n → sel[i]? = some o → Same H1 H0 → Has (D :: S) H0 → Y i H0 x H' → ∀ Qt : Option V → Hp → Prop, (∀ y H'', Same H0 H'' → Out (D :: S) H'' o y → Qt y H'') →
      g x (wipe σ vs) H' fun σ2 H2 => wipe σ2 vs = wipe σ vs ∧ tt σ2 H2 fun b H3 => if b = true then te σ2 H3 fun y H4 => Qt (some y) H4 else Qt none H3)
    (hd : ∀ H', Same H1 H' → H' D ≠ none → Dt (rs S H') (.ref D) (.list (sel.filterMap id)) → Qd H') :
    ∃ W : Nat → Nat → Hp → Prop, (∃ m, W 0 m (upd H1 D (.lst []))) ∧ ∀ i m H, W i m H →
      (J.stop i H ∧ Qd H) ∨ (J.go i H ∧ ∃ Nx : Hp → Prop, (∀ H', Nx H' → ∃ m', m' < m ∧ W (i + 1) m' H') ∧ ∀ x H', J.yld i H x H' → g x (wipe σ vs) H' fun σ2 H2 => wipe σ2 vs = wipe σ vs ∧ tt σ2 H2 fun b H3 =>
        if b = true then te σ2 H3 fun y H4 => ∃ acc, H4 D = some (.lst acc) ∧ acc.length < sizeLine ∧ Nx (upd H4 D (.lst (acc ++ [y]))) else Nx H3) := by
  refine lc_it w (fun i H => accP S H1 D ((sel.take i).filterMap id) H) ⟨same_upd nD, [], upd_same, .nil⟩ (fun i H _ p => hG H p.1) ?_ ?_
  · rintro i x H H' hi h y
    have ho : sel[i]? = some (sel[i]'(by omega)) := List.getElem?_eq_getElem (by omega)
    obtain ⟨s, ys, hD, hy⟩ := id h
    exact hs i _ H x H' hi ho s ((hS.same s).cons hD) y (fun o H4 => match o with
      | some y => ∃ acc, H4 D = some (.lst acc) ∧ acc.length < sizeLine ∧ accP S H1 D ((sel.take (i + 1)).filterMap id) (upd H4 D (.lst (acc ++ [y])))
      | none => accP S H1 D ((sel.take (i + 1)).filterMap id) H4) fun y H4 s4 hO => acc_step nD ho (by omega) h s4 y hO
  · rintro H h
    rw [← hlen, List.take_length] at h
    refine hd H h.1 ?_ (acc_end hS nD h)
    obtain ⟨_, ys, hD, _⟩ := h
    rw [hD]
    exact fun z => nomatch z
theorem dt_pairs {K : PySem.W.Frag} {H : Hp} {a : Addr} {ps : List (Int × Int)} (h : Dt H (.ref a) (.list (ps.map pairD))) : PairsAt K H a ps := by
  cases h with
  | lst ha hx =>
    rename_i xs
    have key : ∀ (ps : List (Int × Int)) (xs : List V), DtA H xs (ps.map pairD) → ∃ as : List Addr, xs = as.map V.ref ∧ as.length = ps.length ∧ ∀ (i : Nat) (t : Addr) (p : Int × Int), as[i]? = some t → ps[i]? = some p → SqT K H t [.int p.1, .int p.2] := fun ps => by
      induction ps with
      | nil => intro xs h; cases h; exact ⟨[], rfl, rfl, fun i t p ht => by simp at ht⟩
      | cons p ps ih =>
        intro xs h
        cases h with
        | cons b c =>
          obtain ⟨as, rfl, hl, k⟩ := ih _ c
          obtain ⟨t, ys, rfl, ht, hy⟩ := (show Dt H _ (.tuple [.int p.1, .int p.2]) from b).tupE
          rw [DtA.intsE (ns := [p.1, p.2]) hy] at ht
          refine ⟨t :: as, rfl, by rw [List.length_cons, List.length_cons, hl], fun i u q hu hq => ?_⟩
          cases i with
          | zero =>
            rw [List.getElem?_cons_zero] at hu hq
            cases hu
            cases hq
            exact .inl (.inl ht)
          | succ i =>
            rw [List.getElem?_cons_succ] at hu hq
            exact k i u q hu hq
    obtain ⟨as, rfl, hl, k⟩ := key ps xs hx
    exact ⟨as, .inl (.inl ha), hl, k⟩
end My

namespace My
open PySem PySem.Spec PyProof.Rows L2 Pre
/-! ### set(a list of whole numbers) -/
/-- a set just made -/
abbrev sE (w : World) : Obj := { cls := .type "set", dict := none, data := .set #[] 0 (.fresh 0 0 (!w.params.followText "set-order")) }
section
variable {P : Program} {w : World} {A : Around} {E : Value → Shared → Prop} {s : Shared}
/-- all that stood ahead stands -/
def Ahead (h h' : Heap) : Prop := ∀ b o, h.get? b = some o → h'.get? b = some o
set_option maxHeartbeats 8000000 in
theorem set_of_list {l : Addr} {its : Array Value} (ns : List Int) {Q : Value → Shared → Prop} (calm : A.handled = none) (lst : s.heap.IsList l its) (are : IntsAre its.toList ns) (few : ns.length + 1 < scanBound)
    (fin : ∀ (h' : Heap) (tk c : Nat), SetR w h' s.heap.objs.size (fun j => decide (j ∈ ns)) c → c ≤ ns.length → Ahead s.heap h' → Q (.ref s.heap.objs.size) { s with heap := h', toks := tk }) :
    wpAny (model P w) A (call (.type "set") [.ref l]) Q E s := by
  have size : its.size = ns.length := (Array.length_toList (xs := its)).symm.trans are.length
  obtain ⟨c0, tl, hmro⟩ := F.called_set.mro; have hmade := F.called_set.made; have hsub := F.called_set.sub; have hlt := F.called_set.notType; have hcr := F.called_set.canCreate; have hct := F.typeCall_set_1 (.ref l)
  refine wpAny_call (codeAny_of_tree ?_); show wpAny _ _ (callAny (.type "set") _) _ _ _
  refine wpAny_pure ⟨Code.quiet_builtin _ (by decide +kernel), codeAny_builtin F.entry_type_call ?_⟩; rw [Around.under_plain (weight_type_call_type "set" [.ref l] []) rfl]
  repeat (any_goals (first | assumption | wp_step))
  let top := s.heap.objs.size
  let h1 := s.heap.push (sE w)
  refine codeAny_mono (code_set_led1 (.ref l) (E := E) (Q₁ := fun x t => x = .ref top ∧ t = { s with heap := h1 }) ⟨rfl, rfl⟩) fun r t hr => ?_
  rcases r with e | fl
  · exact hr
  cases fl with
  | ret x =>
    obtain ⟨rfl, rfl⟩ := hr
    have new : h1.get? top = some (sE w) := Heap.get?_push_size _ rfl
    have isSet : Shared.TypeIs { s with heap := h1 } (.ref top) "set" := ⟨_, new, rfl⟩
    have hli := F.called_set.init.lookup; have hbi := F.called_set.init.bind (.ref top)
    repeat (any_goals (first | assumption | wp_step))
    refine codeAny_mono (codeAny_call_builtin (R := wants (fun y u => y = .none ∧ ∃ h' tk c, u = { s with heap := h', toks := tk } ∧ SetR w h' top (fun j => decide (j ∈ ns)) c ∧ c ≤ ns.length ∧ Ahead s.heap h') E) F.called_set.init.plain F.entry_set_init (check_set_init_1 isSet ?_)) fun r2 u hu => ?_
    · obtain ⟨⟨oc, od, ot, os⟩, at_l, cl, nl, dl⟩ := lst
      simp only at cl dl; subst cl; subst dl
      have at1 : h1.get? l = some { cls := .type "list", dict := od, data := .seq its nl, slots := os } := Heap.get?_push_of_some _ at_l
      have n1 := F.sub_list_set; have n2 := F.sub_list_frozenset; have n3 : (Value.type "list" == Value.type "dict") = false := by decide
      have lst1 : h1.IsList l its := ⟨_, at1, rfl, nl, rfl⟩
      unfold Builtin.«set.__init__» noKeywords Builtin.Frozenset.updateFrom; generalize eI : pyIter = I
      wp_walk
      subst eI
      refine wpAny_pyIter_list lst1 ?_; refine wpAny_bind (wpAny_runValue ?_)
      have lt := Heap.lt_size at_l
      have calm3 : A.in1.in1.in1.handled = none := by simp [calm]
      have hz : h1.objs.size = top + 1 := Heap.size_push ..
      have apart : l ≠ h1.objs.size := by rw [hz]; exact Nat.ne_of_lt (Nat.lt_succ_of_lt lt)
      have notin : top ∉ [h1.objs.size, l] := by
        rw [hz]; intro z
        rcases List.mem_cons.mp z with z | z
        · omega
        · have := List.mem_singleton.mp z; exact Nat.lt_irrefl l (by rw [← this] at lt ⊢; exact lt)
      have each : ∀ (i : Nat) (v : Value), its[i]? = some v → ∃ k t, ns[i]? = some k ∧ v = .int k t := fun i v hv => by
        have hi := (Array.getElem?_eq_some_iff.mp hv).1; rw [size] at hi
        obtain ⟨t, e⟩ := IntsAre.int_at are i v ((Array.getElem?_toList (xs := its)).trans hv)
        exact ⟨ns[i], t, List.getElem?_eq_getElem hi, by rw [e, List.getD_eq_getElem?_getD, List.getElem?_eq_getElem hi]; rfl⟩
      refine set_update_ints ((Walks.list calm3 _ l apart its).toS) top notin ns size few each (its.size - 0) 0 _ (by omega) (Nat.zero_le _) ⟨⟨_, Heap.get?_push_size _ rfl, rfl, rfl⟩, (lst1.push _)⟩ ⟨0, Nat.le_refl 0, setR_new_at (Heap.get?_push_of_some _ new)⟩ fun s2 c mv hc set2 => ?_
      have es : s2 = { s with heap := s2.heap, toks := s2.toks } := by
        obtain ⟨a1, a2, a3, a4, a5⟩ := s2
        obtain rfl : a2 = s.gens := mv.gens
        obtain rfl : a3 = s.drawn := mv.drawn
        obtain rfl : a5 = s.os := mv.os
        rfl
      rw [size] at hc
      show wpAny _ _ _ _ _ _
      refine wpAny_pure ?_
      show wpAny _ _ (ret Value.none) _ _ _
      refine wpAny_pure ⟨rfl, s2.heap, s2.toks, c, es, set2, hc, fun b o e => mv.heap b o (fun z => ?_) (Heap.get?_push_of_some _ (Heap.get?_push_of_some _ e))⟩
      have lb := Heap.lt_size e
      rcases List.mem_cons.mp z with z | z
      · exact Nat.lt_irrefl _ (by rw [z] at lb; exact lb)
      · rw [List.mem_singleton.mp z, hz] at lb; exact absurd lb (by show ¬ top + 1 < top; omega)
    · rcases r2 with e | fl2
      · exact hu
      cases fl2 with
      | ret y =>
        obtain ⟨rfl, h', tk, c, rfl, a1, a2, a3⟩ := hu
        repeat (any_goals (first | assumption | wp_step))
        exact fin _ _ _ a1 a2 a3
      | _ => exact hu.elim
  | _ => exact hr.elim
end
section
variable {X : Cx}
def rSetL (K : PySem.W.Frag) (w : World) : List V → Hp → VK → Prop := fun xs H Q => ∃ (l : Addr) (ns : List Int), xs = [.ref l] ∧ SqL K H l (ns.map V.int) ∧ ns.length ≤ 1000 ∧ ∀ p c, H p = none → c ≤ ns.length → Q (.ref p) (upd H p (SetO w p (fun j => decide (j ∈ ns)) c))
theorem k_setL (K : PySem.W.Frag) (h : X.K = K) (hc : X.calm = true) : CallR X (.type "set") (rSetL K X.w) := by
  subst h
  intro pins s σ H xs us Q I r h
  obtain ⟨l, ns, rfl, hl, hz, q⟩ := h
  rw [Vals.ref1 r]
  obtain ⟨its, rv, pl, _⟩ := I.list hl
  have are : IntsAre its.toArray.toList ns := ints_of_vals rv
  exact set_of_list ns (I.ok.hd hc) pl.isList are (by unfold scanBound; omega) fun h' tk c R le kp => ⟨.ref _, _, I.laid (t' := tk) kp (Nat.le_refl _) (setO_new R), rfl, q _ c (I.hok.fresh (Nat.le_refl _)) le⟩
/-- sorted(a set of whole numbers) -/
theorem k_sortedSet (h : X.calm = true) : CallR X (.builtin "sorted") (rSortedSet X.w) := cr_sortedSet h
/-- not in a range -/
theorem op_notin_rng : OpR X (compareOp .NotIn) (fun x y H Q => ∃ i a lo hi, x = V.int i ∧ y = V.ref a ∧ H a = some (.rng lo hi) ∧ Q (.bl (!decide (lo ≤ i ∧ i < hi))) H) := by
  intro pins s σ H x y v u Q I rx ry h
  obtain ⟨i, a, lo, hi, rfl, rfl, ha, q⟩ := h
  obtain ⟨k, rfl⟩ := rx
  obtain rfl : u = Value.ref a := ry
  obtain ⟨t1, t2, t3, ho⟩ := I.hok a _ ha
  show wpAny _ _ (do return Value.bool (!(← contains (Value.ref a) (Value.int i k)))) _ _ s
  refine wpAny_bind (wpAny_contains_slot (T := "range") ⟨_, ho, rfl⟩ F.slot_range_contains (call_meets F.slot_range_contains ⟨_, ho, rfl⟩ F.entry_range_contains (F.args_range_contains_2 _ _) (q_contains a lo hi i t1 t2 t3 k) ⟨ho, wpAny_truthy_bool (wpAny_pure ⟨.bl _, H, I, rfl, ?_⟩)⟩))
  rw [place1]; exact q
variable {a b c d : Expr} {ta tb tc td : TE} {pos : Pos} {o1 o2 o3 : CmpOp} {r1 r2 r3 : R2}
def tChain3 (r1 r2 r3 : R2) (ta tb tc td : TE) : TE := fun σ H Q => ta σ H fun x H1 => tb σ H1 fun y H2 => r1 x y H2 fun z H3 => ∃ k, z = .bl k ∧ (if k = true then tc σ H3 fun u H4 => r2 y u H4 fun z2 H5 => ∃ k2, z2 = .bl k2 ∧ (if k2 = true then td σ H5 fun v H6 => r3 u v H6 Q else Q (.bl false) H5) else Q (.bl false) H3)
theorem pe_chain3 (h1 : OpR X (compareOp o1) r1) (h2 : OpR X (compareOp o2) r2) (h3 : OpR X (compareOp o3) r3) (ha : PE X a ta) (hb : PE X b tb) (hc : PE X c tc) (hd : PE X d td)
    (hm : lastMarks [o1, o2, o3] [b, c, d] = false := by with_unfolding_all rfl) : PE X (.Compare a [o1, o2, o3] [b, c, d] pos) (tChain3 r1 r2 r3 ta tb tc td) := by
  refine ⟨fun pins s σ H Q I h => Compare_chain (thn (ha.run pins s σ H _ I h) fun v s1 ⟨x, H1, I1, rx, q1⟩ => chain_link (thn (hb.run pins s1 σ H1 _ I1 q1) fun u s2 ⟨y, H2, I2, ry, q2⟩ => thn (h1 pins s2 σ H2 x y v u _ I2 rx ry q2) fun _ s3 ⟨_, H3, I3, rz, k, e, q3⟩ => ?_)) hm⟩
  subst e; cases rz; refine wpAny_truthy_bool ?_
  cases k
  · exact ite_ff ⟨.bl false, H3, I3, rfl, q3⟩
  refine ite_tt (chain_link (thn (hc.run pins s3 σ H3 _ I3 q3) fun w' s4 ⟨z', H4, I4, r4, q4⟩ => thn (h2 pins s4 σ H4 y z' u w' _ I4 ry r4 q4) fun _ s5 ⟨_, H5, I5, rz, k2, e, q5⟩ => ?_))
  subst e; cases rz; refine wpAny_truthy_bool ?_
  cases k2
  · exact ite_ff ⟨.bl false, H5, I5, rfl, q5⟩
  exact ite_tt (chain_last (thn (hd.run pins s5 σ H5 _ I5 q5) fun v6 s6 ⟨z6, H6, I6, r6, q6⟩ => h3 pins s6 σ H6 z' z6 w' v6 Q I6 r4 r6 q6))
theorem pt_chain3 (h1 : OpR X (compareOp o1) r1) (h2 : OpR X (compareOp o2) r2) (h3 : OpR X (compareOp o3) r3) (ha : PE X a ta) (hb : PE X b tb) (hc : PE X c tc) (hd : PE X d td)
    (hm : lastMarks [o1, o2, o3] [b, c, d] = false := by with_unfolding_all rfl) : PT X (.Compare a [o1, o2, o3] [b, c, d] pos) (tTest (tChain3 r1 r2 r3 ta tb tc td)) := by
  refine ⟨fun pins s σ H Q I h => isTrue_chain (thn (ha.run pins s σ H _ I h) fun v s1 ⟨x, H1, I1, rx, q1⟩ => test_link (thn (hb.run pins s1 σ H1 _ I1 q1) fun u s2 ⟨y, H2, I2, ry, q2⟩ => thn (h1 pins s2 σ H2 x y v u _ I2 rx ry q2) fun _ s3 ⟨_, H3, I3, rz, k, e, q3⟩ => ?_)) hm⟩
  subst e; cases rz; refine wpAny_truthy_bool ?_
  cases k
  · obtain ⟨k', e', q'⟩ := q3; cases e'; exact ite_ff ⟨H3, I3, q'⟩
  refine ite_tt (test_link (thn (hc.run pins s3 σ H3 _ I3 q3) fun w' s4 ⟨z', H4, I4, r4, q4⟩ => thn (h2 pins s4 σ H4 y z' u w' _ I4 ry r4 q4) fun _ s5 ⟨_, H5, I5, rz, k2, e, q5⟩ => ?_))
  subst e; cases rz; refine wpAny_truthy_bool ?_
  cases k2
  · obtain ⟨k', e', q'⟩ := q5; cases e'; exact ite_ff ⟨H5, I5, q'⟩
  refine ite_tt (test_last (thn (hd.run pins s5 σ H5 _ I5 q5) fun v6 s6 ⟨z6, H6, I6, r6, q6⟩ => thn (h3 pins s6 σ H6 z' z6 w' v6 _ I6 r4 r6 q6) fun _ s7 ⟨_, H7, I7, rz, k3, e, q7⟩ => ?_))
  subst e; cases rz; exact wpAny_truthy_bool ⟨H7, I7, q7⟩
end
end My

namespace My
open PySem PySem.Spec PyProof.Rows L2 Pre
/-! ### texts of bits -/
def sgn (b : Bool) : Nat := if b = true then 49 else 48
def bS (bs : List Bool) : Str := ⟨(bs.map sgn).toArray⟩
theorem bS_len (bs : List Bool) : (bS bs).length = bs.length := by simp [bS, Str.length]
theorem bS_size (bs : List Bool) : (bS bs).cps.size = bs.length := by simp [bS]
theorem bS_app (a b : List Bool) : bS a ++ bS b = bS (a ++ b) := by
  show (⟨(bS a).cps ++ (bS b).cps⟩ : Str) = _
  unfold bS
  rw [List.map_append, List.append_toArray]
theorem sgn_inj {a b : Bool} (h : sgn a = sgn b) : a = b := by cases a <;> cases b <;> first | rfl | (simp [sgn] at h)
theorem bS_inj {a b : List Bool} (h : bS a = bS b) : a = b := by
  have e : a.map sgn = b.map sgn := by
    have := congrArg (fun z : Str => z.cps.toList) h
    simpa [bS] using this
  induction a generalizing b with
  | nil => cases b with
    | nil => rfl
    | cons _ _ => simp at e
  | cons x r ih => cases b with
    | nil => simp at e
    | cons y q =>
      rw [List.map_cons, List.map_cons, List.cons.injEq] at e
      have hr : bS r = bS q := by
        have z : r.map sgn = q.map sgn := e.2
        unfold bS
        rw [z]
      rw [sgn_inj e.1, ih hr e.2]
theorem bS_at {bs : List Bool} {i c : Nat} (h : (bS bs).cps[i]? = some c) : ∃ b, bs[i]? = some b ∧ (⟨#[c]⟩ : Str) = bS [b] := by
  have e : (bs.map sgn)[i]? = some c := by
    unfold bS at h
    rw [← h]
    simp
  rw [List.getElem?_map] at e
  obtain ⟨b, hb, rfl⟩ := Option.map_eq_some_iff.mp e
  exact ⟨b, hb, rfl⟩
theorem bS_atI {bs : List Bool} {i : Nat} {b : Bool} (h : bs[i]? = some b) : atI (bS bs).cps.toList (i : Int) = some (sgn b) := by
  refine atI_nat ?_
  unfold bS
  simp [h]
theorem bS_one (b : Bool) : (⟨#[sgn b]⟩ : Str) = bS [b] := rfl
theorem str_one : (("1" : String) : Str) = bS [true] := by decide +kernel
theorem str_nil : (("" : String) : Str) = bS [] := by decide +kernel
theorem str_zero : (("0" : String) : Str) = bS [false] := by decide +kernel
theorem dec_bS (a b : List Bool) : decide (V.str (bS a) = V.str (bS b)) = decide (a = b) := by
  by_cases h : a = b
  · subst h; simp
  · rw [decide_eq_false h, decide_eq_false]
    exact fun z => h (bS_inj (V.str.inj z))
theorem one_sign (b : Bool) : decide (V.str (bS [b]) = V.str (("1" : String) : Str)) = b := by
  rw [str_one, dec_bS]
  cases b <;> rfl
theorem reps_list (c : List Nat) : ∀ (k : Nat) (acc : List Nat), (List.replicate k c.toArray).foldl (· ++ ·) acc.toArray = (acc ++ (List.replicate k c).flatten).toArray
  | 0, acc => by simp
  | k + 1, acc => by
    rw [List.replicate_succ, List.foldl_cons, List.append_toArray, reps_list c k, List.replicate_succ, List.flatten_cons, List.append_assoc]
theorem bS_mul (k : Nat) : Txt.mul (("0" : String) : Str) (k : Int) = bS (List.replicate k false) := by
  rw [str_zero]
  unfold Txt.mul
  by_cases h0 : (k : Int) < 1
  · rw [if_pos h0, show k = 0 by omega]
    rfl
  · rw [if_neg h0]
    by_cases h1 : k = 1
    · subst h1
      rfl
    · rw [if_neg (by
        rw [Bool.or_eq_true, beq_iff_eq, beq_iff_eq, bS_len]
        simp
        omega), Int.toNat_natCast]
      have := reps_list [48] k []
      unfold bS
      rw [List.map_replicate]
      show (⟨(List.replicate k ([48] : List Nat).toArray).foldl (· ++ ·) ([] : List Nat).toArray⟩ : Str) = _
      rw [this, List.nil_append]
      have e : (List.replicate k [48]).flatten = List.replicate k 48 := by
        clear this h0 h1
        induction k with
        | zero => rfl
        | succ k ih => rw [List.replicate_succ, List.flatten_cons, ih, List.replicate_succ]; rfl
      rw [e]
      rfl
theorem join_bits (bs : List Bool) : Txt.join (("" : String) : Str) (bs.map fun b => bS [b]) = bS bs := by
  rw [TL.join_eq]
  have e0 : TL.tl ((("" : String) : Str)) = [] := by rw [str_nil]; rfl
  have key : ∀ bs : List Bool, TL.joinL [] ((bs.map fun b => bS [b]).map TL.tl) = bs.map sgn := by
    intro bs
    induction bs with
    | nil => rfl
    | cons b r ih =>
      cases r with
      | nil => rfl
      | cons c q =>
        show TL.tl (bS [b]) ++ ([] ++ TL.joinL [] (((c :: q).map fun b => bS [b]).map TL.tl)) = _
        rw [ih]
        rfl
  have h := TL.tl_join (("" : String) : Str) (bs.map fun b => bS [b])
  rw [e0, key] at h
  unfold bS
  rw [← h]
  exact (TL.mk_tl _).symm
section
variable {X : Cx}
def rRepS : R2 := fun x y H Q => ∃ (z : Str) (n : Nat), x = .str z ∧ y = .int n ∧ z.length ≤ 100 ∧ n ≤ 10000 ∧ Q (.str (Txt.mul z n)) H
theorem op_rep_str : OpR X (binaryOp .Mult) rRepS := by
  intro pins s σ H x y v u Q I rx ry h
  obtain ⟨z, n, rfl, rfl, hz, hn, q⟩ := h
  obtain ⟨t, rfl⟩ := rx
  obtain ⟨t', rfl⟩ := ry
  exact PySem.SB.mul (mulOk_of 100 10000 hz (by omega) (by omega) (by decide) (by decide)) fun t' k => ⟨.str (Txt.mul z n), H, I.tok _, ⟨_, rfl⟩, q⟩
end
end My

namespace My
/-! ### folds in bits, read one by one -/
def vF (a : Nat) (bs : List Bool) : Nat := bs.foldl (fun n b => 2 * n + b.toNat) a
theorem vF_nil (a : Nat) : vF a [] = a := rfl
theorem vF_cons (a : Nat) (b : Bool) (r : List Bool) : vF a (b :: r) = vF (2 * a + b.toNat) r := rfl
theorem vF_app (a : Nat) (x y : List Bool) : vF a (x ++ y) = vF (vF a x) y := by unfold vF; rw [List.foldl_append]
theorem vF_eq (a : Nat) (bs : List Bool) : vF a bs = a * 2 ^ bs.length + vF 0 bs := by
  induction bs generalizing a with
  | nil => simp [vF]
  | cons b r ih =>
    rw [vF_cons, ih, vF_cons, ih (2 * 0 + b.toNat), List.length_cons, Nat.pow_succ, Nat.add_mul]
    have : 2 * a * 2 ^ r.length = a * (2 ^ r.length * 2) := by rw [Nat.mul_comm 2 a, Nat.mul_assoc, Nat.mul_comm 2]
    simp only [Nat.mul_zero, Nat.zero_add]
    omega
theorem vF_lt (bs : List Bool) : vF 0 bs < 2 ^ bs.length := by
  induction bs with
  | nil => simp [vF]
  | cons b r ih =>
    rw [vF_cons, vF_eq, List.length_cons, Nat.pow_succ]
    cases b <;> simp <;> omega
theorem vF_mono {a b : Nat} (h : a ≤ b) (bs : List Bool) : vF a bs ≤ vF b bs := by
  rw [vF_eq a, vF_eq b]
  have := Nat.mul_le_mul_right (2 ^ bs.length) h
  omega
theorem vF_ge (a : Nat) (bs : List Bool) : a ≤ vF a bs := by
  rw [vF_eq]
  have : a * 1 ≤ a * 2 ^ bs.length := Nat.mul_le_mul_left a (Nat.one_le_two_pow)
  omega
theorem vF_inj : ∀ {x y : List Bool}, x.length = y.length → vF 0 x = vF 0 y → x = y
  | [], [], _, _ => rfl
  | [], _ :: _, h, _ => nomatch h
  | _ :: _, [], h, _ => nomatch h
  | a :: x, b :: y, h, e => by
    have hl : x.length = y.length := Nat.succ.inj h
    rw [vF_cons, vF_cons, vF_eq (2 * 0 + a.toNat), vF_eq (2 * 0 + b.toNat), hl] at e
    have h1 := vF_lt x
    have h2 := vF_lt y
    rw [hl] at h1
    cases a <;> cases b <;> simp at e
    · rw [vF_inj hl e]
    · omega
    · omega
    · rw [vF_inj hl e]
/-- the low bits of a number, the high ones first -/
def bB (n : Nat) : Nat → List Bool
  | 0 => []
  | k + 1 => (n / 2 ^ k % 2 == 1) :: bB n k
theorem bB_len (n : Nat) : ∀ k, (bB n k).length = k
  | 0 => rfl
  | k + 1 => by unfold bB; rw [List.length_cons, bB_len n k]
theorem bB_val (n : Nat) : ∀ k, vF 0 (bB n k) = n % 2 ^ k
  | 0 => by simp [bB, vF, Nat.mod_one]
  | k + 1 => by
    unfold bB
    rw [vF_cons, vF_eq, bB_val n k, bB_len, Nat.pow_succ, Nat.mod_mul]
    rcases Nat.mod_two_eq_zero_or_one (n / 2 ^ k) with h | h <;> rw [h] <;> simp <;> omega
theorem bB_of (m : Nat) (bs : List Bool) : bB (m * 2 ^ bs.length + vF 0 bs) bs.length = bs := by
  refine vF_inj (bB_len _ _) ?_
  rw [bB_val, Nat.mul_add_mod_of_lt' (vF_lt bs)]
where
  Nat.mul_add_mod_of_lt' {a b c : Nat} (h : c < b) : (a * b + c) % b = c := by
    rw [Nat.add_comm, Nat.add_mul_mod_self_right, Nat.mod_eq_of_lt h]
def ones : List Bool → Nat
  | true :: r => ones r + 1
  | _ => 0
theorem ones_le : ∀ bs : List Bool, ones bs ≤ bs.length
  | [] => Nat.le_refl _
  | true :: r => by unfold ones; rw [List.length_cons]; have := ones_le r; omega
  | false :: r => by simp [ones]
theorem ones_at : ∀ (bs : List Bool) (i : Nat), i < ones bs → bs[i]? = some true
  | [], i, h => by simp [ones] at h
  | false :: r, i, h => by simp [ones] at h
  | true :: r, 0, _ => rfl
  | true :: r, i + 1, h => by
    rw [List.getElem?_cons_succ]
    exact ones_at r i (by unfold ones at h; omega)
theorem ones_stop : ∀ bs : List Bool, bs[ones bs]? ≠ some true
  | [] => by simp
  | false :: r => by simp [ones]
  | true :: r => by
    unfold ones
    rw [List.getElem?_cons_succ]
    exact ones_stop r
theorem ones_uniq {bs : List Bool} {k : Nat} (h1 : ∀ i, i < k → bs[i]? = some true) (h2 : bs[k]? ≠ some true) : ones bs = k := by
  rcases Nat.lt_trichotomy (ones bs) k with h | h | h
  · exact absurd (h1 _ h) (ones_stop bs)
  · exact h
  · exact absurd (ones_at bs k h) h2
theorem ones_split : ∀ (bs : List Bool), ones bs < bs.length → bs = List.replicate (ones bs) true ++ false :: bs.drop (ones bs + 1)
  | [], h => by simp at h
  | false :: r, _ => by simp [ones]
  | true :: r, h => by
    unfold ones at h ⊢
    rw [List.replicate_succ, List.drop_succ_cons, List.cons_append]
    rw [← ones_split r (by rw [List.length_cons] at h; omega)]
theorem ones_of (k : Nat) (r : List Bool) : ones (List.replicate k true ++ false :: r) = k := by
  induction k with
  | zero => rfl
  | succ k ih => rw [List.replicate_succ, List.cons_append]; unfold ones; rw [ih]
/-- the first fold of some bits, and how many bits it has -/
def foldR (w : Nat) (bs : List Bool) : Option (Nat × Nat) :=
  if ones bs + 1 + w ≤ bs.length then some (vF (ones bs) ((bs.drop (ones bs + 1)).take w), ones bs + 1 + w) else none
def rd (w : Nat) : Nat → List Bool → Nat → List (Nat × Nat)
  | 0, _, _ => []
  | k + 1, bs, p => match foldR w bs with
    | none => []
    | some x => (x.1, p + x.2) :: rd w k (bs.drop x.2) (p + x.2)
theorem rd_none {w k : Nat} {bs : List Bool} {p : Nat} (h : foldR w bs = none) : rd w (k + 1) bs p = [] := by
  show (match foldR w bs with
    | none => []
    | some x => (x.1, p + x.2) :: rd w k (bs.drop x.2) (p + x.2)) = _
  rw [h]
theorem rd_some {w k : Nat} {bs : List Bool} {p : Nat} {x : Nat × Nat} (h : foldR w bs = some x) : rd w (k + 1) bs p = (x.1, p + x.2) :: rd w k (bs.drop x.2) (p + x.2) := by
  show (match foldR w bs with
    | none => []
    | some x => (x.1, p + x.2) :: rd w k (bs.drop x.2) (p + x.2)) = _
  rw [h]
/-- all folds of some bits, each with the place behind it -/
def rdT (w : Nat) (bs : List Bool) : List (Nat × Nat) := rd w bs.length bs 0
theorem foldR_le {w : Nat} {bs : List Bool} {x : Nat × Nat} (h : foldR w bs = some x) : 0 < x.2 ∧ x.2 ≤ bs.length := by
  unfold foldR at h
  split at h
  · cases h; exact ⟨by show 0 < ones bs + 1 + w; omega, by assumption⟩
  · cases h
theorem rd_at (w : Nat) : ∀ (k : Nat) (bs : List Bool) (p0 : Nat), bs.length ≤ k → ∀ (j p : Nat), (p0 :: (rd w k bs p0).map (·.2))[j]? = some p →
    p0 ≤ p ∧ p ≤ p0 + bs.length ∧ (foldR w (bs.drop (p - p0))).map (fun x => (x.1, p + x.2)) = (rd w k bs p0)[j]?
  | 0, bs, p0, h, j, p, e => by
    have hb : bs = [] := List.eq_nil_of_length_eq_zero (by omega)
    subst hb
    cases j with
    | zero =>
      cases e
      refine ⟨Nat.le_refl _, Nat.le_refl _, ?_⟩
      have : foldR w ([] : List Bool) = none := by
        unfold foldR
        rw [if_neg (by simp [ones])]
      simp [this, rd]
    | succ j => simp [rd] at e
  | k + 1, bs, p0, h, j, p, e => by
    cases hf : foldR w bs with
    | none =>
      have e1 : rd w (k + 1) bs p0 = [] := rd_none hf
      rw [e1] at e ⊢
      cases j with
      | zero =>
        cases e
        exact ⟨Nat.le_refl _, by omega, by simp [hf]⟩
      | succ j => simp at e
    | some x =>
      obtain ⟨l1, l2⟩ := foldR_le hf
      have e1 : rd w (k + 1) bs p0 = (x.1, p0 + x.2) :: rd w k (bs.drop x.2) (p0 + x.2) := rd_some hf
      rw [e1] at e ⊢
      cases j with
      | zero =>
        cases e
        exact ⟨Nat.le_refl _, by omega, by simp [hf]⟩
      | succ j =>
        rw [List.getElem?_cons_succ, List.map_cons] at e
        obtain ⟨q1, q2, q3⟩ := rd_at w k (bs.drop x.2) (p0 + x.2) (by rw [List.length_drop]; omega) j p e
        rw [List.length_drop] at q2
        refine ⟨by omega, by omega, ?_⟩
        rw [List.getElem?_cons_succ, ← q3, List.drop_drop]
        have : x.2 + (p - (p0 + x.2)) = p - p0 := by omega
        rw [this]
/-- the place at which the fold number j begins -/
def plc (w : Nat) (bs : List Bool) (j : Nat) : Nat := ((0 :: (rdT w bs).map (·.2))[j]?).getD 0
theorem plc_get {w : Nat} {bs : List Bool} {j : Nat} (h : j ≤ (rdT w bs).length) : (0 :: (rdT w bs).map (·.2))[j]? = some (plc w bs j) := by
  unfold plc
  rw [List.getElem?_eq_getElem (by simp; omega), Option.getD_some]
theorem plc_zero (w : Nat) (bs : List Bool) : plc w bs 0 = 0 := rfl
theorem plc_step {w : Nat} {bs : List Bool} {j : Nat} (h : j ≤ (rdT w bs).length) : plc w bs j ≤ bs.length ∧ (foldR w (bs.drop (plc w bs j))).map (fun x => (x.1, plc w bs j + x.2)) = (rdT w bs)[j]? := by
  obtain ⟨q1, q2, q3⟩ := rd_at w bs.length bs 0 (Nat.le_refl _) j _ (plc_get h)
  rw [Nat.sub_zero] at q3
  exact ⟨by omega, q3⟩
theorem plc_next {w : Nat} {bs : List Bool} {j : Nat} {x : Nat × Nat} (h : (rdT w bs)[j]? = some x) : plc w bs (j + 1) = x.2 := by
  unfold plc
  rw [List.getElem?_cons_succ, List.getElem?_map, h]
  rfl
theorem rd_len (w : Nat) : ∀ (k : Nat) (bs : List Bool) (p : Nat), (rd w k bs p).length ≤ bs.length
  | 0, _, _ => by simp [rd]
  | k + 1, bs, p => by
    cases hf : foldR w bs with
    | none => rw [rd_none hf]; simp
    | some x =>
      rw [rd_some hf]
      obtain ⟨l1, l2⟩ := foldR_le hf
      have := rd_len w k (bs.drop x.2) (p + x.2)
      rw [List.length_drop] at this
      simp only [List.length_cons]
      omega
theorem rdT_len (w : Nat) (bs : List Bool) : (rdT w bs).length ≤ bs.length := rd_len w _ _ _
/-- the bits of one fold -/
def tx1 (w f : Nat) : List Bool := List.replicate (f / 2 ^ w) true ++ false :: bB f w
def txF (w : Nat) (fs : List Nat) : List Bool := fs.flatMap (tx1 w)
theorem tx1_len (w f : Nat) : (tx1 w f).length = f / 2 ^ w + 1 + w := by
  unfold tx1
  rw [List.length_append, List.length_replicate, List.length_cons, bB_len]
  omega
theorem foldR_tx1 (w f : Nat) (r : List Bool) : foldR w (tx1 w f ++ r) = some (f, (tx1 w f).length) := by
  have e : tx1 w f ++ r = List.replicate (f / 2 ^ w) true ++ false :: (bB f w ++ r) := by
    unfold tx1
    rw [List.append_assoc, List.cons_append]
  unfold foldR
  rw [tx1_len, e, ones_of]
  rw [if_pos (by rw [List.length_append, List.length_replicate, List.length_cons, List.length_append, bB_len]; omega)]
  have e2 : (List.replicate (f / 2 ^ w) true ++ false :: (bB f w ++ r)).drop (f / 2 ^ w + 1) = bB f w ++ r := by
    rw [List.drop_append_of_le_length' , List.length_replicate]
    · have : f / 2 ^ w + 1 - f / 2 ^ w = 1 := by omega
      rw [this]
      simp
  have e3 : (bB f w ++ r).take w = bB f w := by
    rw [List.take_append_of_le_length (by rw [bB_len]; exact Nat.le_refl _), List.take_of_length_le (by rw [bB_len]; exact Nat.le_refl _)]
  rw [e2, e3, vF_eq, bB_val, bB_len]
  have := Nat.div_add_mod f (2 ^ w)
  rw [Nat.mul_comm, ] at this
  rw [this]
where
  List.drop_append_of_le_length' {n : Nat} {a b : List Bool} : (a ++ b).drop n = a.drop n ++ b.drop (n - a.length) := List.drop_append
/-- written and read -/
theorem rd_tx (w : Nat) : ∀ (fs : List Nat) (more : List Bool) (k p : Nat), (txF w fs ++ more).length ≤ k →
    ((rd w k (txF w fs ++ more) p).take fs.length).map (·.1) = fs ∧ (p :: (rd w k (txF w fs ++ more) p).map (·.2))[fs.length]? = some (p + (txF w fs).length)
  | [], more, k, p, _ => by simp [txF]
  | f :: fs, more, k, p, h => by
    have e : txF w (f :: fs) ++ more = tx1 w f ++ (txF w fs ++ more) := by
      show (tx1 w f ++ txF w fs) ++ more = _
      rw [List.append_assoc]
    have el : (txF w (f :: fs)).length = (tx1 w f).length + (txF w fs).length := by
      show (tx1 w f ++ txF w fs).length = _
      rw [List.length_append]
    rw [e] at h ⊢
    have hp : 1 ≤ (tx1 w f).length := by
      rw [tx1_len]
      exact Nat.le_trans (Nat.le_add_left 1 _) (Nat.le_add_right _ _)
    rw [List.length_append] at h
    cases k with
    | zero => omega
    | succ k =>
      rw [rd_some (foldR_tx1 w f _)]
      have e2 : (tx1 w f ++ (txF w fs ++ more)).drop (tx1 w f).length = txF w fs ++ more := by simp
      rw [e2]
      obtain ⟨q1, q2⟩ := rd_tx w fs more k (p + (tx1 w f).length) (by omega)
      refine ⟨?_, ?_⟩
      · rw [List.length_cons, List.take_succ_cons, List.map_cons, q1]
      · rw [List.length_cons, List.getElem?_cons_succ, List.map_cons, q2, el]
        congr 1
        omega
theorem rdT_tx (w : Nat) (fs : List Nat) (more : List Bool) : ((rdT w (txF w fs ++ more)).take fs.length).map (·.1) = fs ∧ fs.length ≤ (rdT w (txF w fs ++ more)).length ∧ plc w (txF w fs ++ more) fs.length = (txF w fs).length := by
  obtain ⟨q1, q2⟩ := rd_tx w fs more _ 0 (Nat.le_refl _)
  refine ⟨q1, ?_, ?_⟩
  · have := congrArg List.length q1
    rw [List.length_map, List.length_take] at this
    have : min fs.length (rdT w (txF w fs ++ more)).length = fs.length := this
    omega
  · unfold plc
    show ((0 :: (rd w _ (txF w fs ++ more) 0).map (·.2))[fs.length]?).getD 0 = _
    rw [q2, Option.getD_some, Nat.zero_add]
/-! ### read whole -/
def whole (w : Nat) (bs : List Bool) : Bool := plc w bs (rdT w bs).length == bs.length
theorem lastE {w : Nat} {bs : List Bool} : (0 :: (rdT w bs).map (·.2)).getLast (by simp) = plc w bs (rdT w bs).length := by
  unfold plc
  rw [List.getLast_eq_getElem]
  simp
def goS (w s : Int) (b : Bool) : Int := if 0 < s then s - 1 else if b = true then -1 else w
def runS (w s : Int) (bs : List Bool) : Int := bs.foldl (goS w) s
theorem run_cons (w s : Int) (b : Bool) (r : List Bool) : runS w s (b :: r) = runS w (goS w s b) r := rfl
theorem run_app (w s : Int) (x y : List Bool) : runS w s (x ++ y) = runS w (runS w s x) y := by unfold runS; rw [List.foldl_append]
theorem run_ones (w : Int) (k : Nat) : runS w 0 (List.replicate k true) = if k = 0 then 0 else -1 := by
  cases k with
  | zero => rfl
  | succ k =>
    rw [if_neg (by omega), List.replicate_succ, run_cons]
    show runS w (-1) _ = -1
    induction k with
    | zero => rfl
    | succ k ih => rw [List.replicate_succ, run_cons]; exact ih
theorem run_down (w : Nat) : ∀ (n : Nat) (bs : List Bool), runS w n bs = if bs.length < n then ((n - bs.length : Nat) : Int) else runS w 0 (bs.drop n)
  | 0, bs => by rw [if_neg (by omega)]; rfl
  | n + 1, [] => by rw [if_pos (by simp)]; rfl
  | n + 1, b :: r => by
    rw [run_cons]
    have e : goS w ((n + 1 : Nat) : Int) b = (n : Nat) := by
      unfold goS
      rw [if_pos (by omega)]
      omega
    rw [e, run_down w n r, List.length_cons, List.drop_succ_cons]
    by_cases h : r.length < n
    · rw [if_pos h, if_pos (by omega)]
      congr 1
      omega
    · rw [if_neg h, if_neg (by omega)]
def lastP (p : Nat) (l : List (Nat × Nat)) : Nat := (p :: l.map (·.2)).getLast (by simp)
theorem lastP_cons (p : Nat) (x : Nat × Nat) (l : List (Nat × Nat)) : lastP p (x :: l) = lastP x.2 l := by
  unfold lastP
  simp
theorem whole_run (w : Nat) : ∀ (k : Nat) (bs : List Bool) (p : Nat), bs.length ≤ k → (lastP p (rd w k bs p) = p + bs.length ↔ runS w 0 bs = 0)
  | 0, bs, p, h => by
    have hb : bs = [] := List.eq_nil_of_length_eq_zero (by omega)
    subst hb
    simp [rd, lastP, runS]
  | k + 1, bs, p, h => by
    have ho := ones_le bs
    by_cases h0 : ones bs < bs.length
    · have sp := ones_split bs h0
      have hrun : runS w 0 bs = runS w w (bs.drop (ones bs + 1)) := by
        conv => lhs; rw [sp]
        rw [run_app, run_ones, run_cons]
        have : goS w (if ones bs = 0 then 0 else -1) false = w := by
          unfold goS
          rw [if_neg (by split <;> omega), if_neg (by simp)]
        rw [this]
      rw [hrun, run_down, List.length_drop]
      by_cases h1 : ones bs + 1 + w ≤ bs.length
      · have hf : foldR w bs = some (vF (ones bs) ((bs.drop (ones bs + 1)).take w), ones bs + 1 + w) := by
          unfold foldR
          rw [if_pos h1]
        rw [if_neg (by omega), rd_some hf, lastP_cons, List.drop_drop]
        have ih := whole_run w k (bs.drop (ones bs + 1 + w)) (p + (ones bs + 1 + w)) (by rw [List.length_drop]; omega)
        rw [List.length_drop] at ih
        show lastP (p + (ones bs + 1 + w)) (rd w k (bs.drop (ones bs + 1 + w)) (p + (ones bs + 1 + w))) = _ ↔ _
        rw [← ih]
        constructor <;> intro e <;> omega
      · have hf : foldR w bs = none := by
          unfold foldR
          rw [if_neg h1]
        rw [if_pos (by omega), rd_none hf]
        show p = p + bs.length ↔ _
        constructor <;> intro e <;> omega
    · have e1 : ones bs = bs.length := by omega
      have hf : foldR w bs = none := by
        unfold foldR
        rw [if_neg (by omega)]
      rw [rd_none hf]
      have hr : bs = List.replicate (ones bs) true := by
        refine List.eq_replicate_iff.mpr ⟨e1.symm, fun b hb => ?_⟩
        obtain ⟨i, hi, rfl⟩ := List.getElem_of_mem hb
        have := ones_at bs i (by omega)
        rw [List.getElem?_eq_getElem hi] at this
        exact Option.some.inj this
      have hrun : runS w 0 bs = if ones bs = 0 then 0 else -1 := by
        conv => lhs; rw [hr]
        exact run_ones _ _
      rw [hrun]
      show p = p + bs.length ↔ _
      by_cases h2 : ones bs = 0
      · rw [if_pos h2]; constructor <;> intro e <;> omega
      · rw [if_neg h2]; constructor <;> intro e <;> omega
theorem whole_iff (w : Nat) (bs : List Bool) : whole w bs = true ↔ runS w 0 bs = 0 := by
  rw [← whole_run w bs.length bs 0 (Nat.le_refl _), Nat.zero_add]
  unfold whole
  rw [beq_iff_eq, ← lastE]
  exact Iff.rfl
theorem tx_rd (w : Nat) : ∀ (k : Nat) (bs : List Bool) (p : Nat), bs.length ≤ k → lastP p (rd w k bs p) = p + bs.length → txF w ((rd w k bs p).map (·.1)) = bs
  | 0, bs, p, h, _ => by
    have hb : bs = [] := List.eq_nil_of_length_eq_zero (by omega)
    subst hb
    rfl
  | k + 1, bs, p, h, e => by
    cases hf : foldR w bs with
    | none =>
      rw [rd_none hf] at e ⊢
      have e' : p = p + bs.length := e
      have hb : bs = [] := List.eq_nil_of_length_eq_zero (by omega)
      subst hb
      rfl
    | some x =>
      obtain ⟨l1, l2⟩ := foldR_le hf
      rw [rd_some hf, lastP_cons] at e
      rw [rd_some hf]
      have ih := tx_rd w k (bs.drop x.2) (p + x.2) (by rw [List.length_drop]; omega) (by rw [List.length_drop]; simp only at e; omega)
      show tx1 w x.1 ++ txF w ((rd w k (bs.drop x.2) (p + x.2)).map (·.1)) = bs
      rw [ih]
      unfold foldR at hf
      split at hf
      · rename_i h1
        cases hf
        have hl : ((bs.drop (ones bs + 1)).take w).length = w := by rw [List.length_take, List.length_drop]; omega
        have lo := vF_lt ((bs.drop (ones bs + 1)).take w)
        rw [hl] at lo
        show tx1 w (vF (ones bs) ((bs.drop (ones bs + 1)).take w)) ++ bs.drop (ones bs + 1 + w) = bs
        unfold tx1
        have e1 : vF (ones bs) ((bs.drop (ones bs + 1)).take w) = ones bs * 2 ^ w + vF 0 ((bs.drop (ones bs + 1)).take w) := by rw [vF_eq, hl]
        have e2 : vF (ones bs) ((bs.drop (ones bs + 1)).take w) / 2 ^ w = ones bs := by
          rw [e1, Nat.add_comm, Nat.add_mul_div_right _ _ (Nat.two_pow_pos w), Nat.div_eq_of_lt lo, Nat.zero_add]
        have e3 : bB (vF (ones bs) ((bs.drop (ones bs + 1)).take w)) w = (bs.drop (ones bs + 1)).take w := by
          rw [e1]
          conv => lhs; arg 2; rw [← hl]
          rw [show ones bs * 2 ^ w = ones bs * 2 ^ ((bs.drop (ones bs + 1)).take w).length by rw [hl]]
          exact bB_of _ _
        have e4 : bs.drop (ones bs + 1 + w) = (bs.drop (ones bs + 1)).drop w := List.drop_drop.symm
        rw [e2, e3, e4, List.append_assoc, List.cons_append, List.take_append_drop]
        exact (ones_split bs (by omega)).symm
      · cases hf
theorem tx_whole {w : Nat} {bs : List Bool} (h : whole w bs = true) : txF w ((rdT w bs).map (·.1)) = bs := by
  refine tx_rd w _ bs 0 (Nat.le_refl _) ?_
  rw [Nat.zero_add]
  unfold whole at h
  rw [beq_iff_eq, ← lastE] at h
  exact h
end My

namespace My
open PySem PySem.Spec PyProof.Rows L2 Pre
/-! ### a dict display of one tuple; sets in comprehensions; texts of bits -/
def tDisp1T (tk tv : TE) : TE := fun σ H Q => ∀ p, H p = none → tk σ (L2.upd H p (.dT [])) fun x H1 => tv σ H1 fun y H2 => H2 p = some (.dT []) ∧ ∃ (b : Addr) (k : List Key), x = .ref b ∧ H2 b = some (.tup (k.map kV)) ∧ Q (.ref p) (L2.upd H2 p (.dT [(k, y)]))
section
variable {X : Cx} {k v : Expr} {tk tv : TE} {pos : Pos}
theorem pe_disp1T (hu : X.A.units + 1 < cLine) (hk : PE X k tk) (hv : PE X v tv) : PE X (.Dict [some k] [v] pos) (tDisp1T tk tv) := by
  refine ⟨fun pins s σ H Q I q => ?_⟩
  have hn := I.hok.fresh (Nat.le_refl s.heap.objs.size)
  have I1 := I.laid (a := s.heap.objs.size) (o := .dT []) (h' := s.heap.push { cls := .type "dict", data := .dict #[] }) (t' := s.toks) (fun _ _ q => Heap.get?_push_of_some _ q) (Nat.le_refl _) (dt_empty s.heap I.big)
  have hl := pairTrees_length [some k] [v] X.env pos rfl rfl
  rw [arm_eval_Dict, zip_pairTrees [some k] [v] X.env pos rfl rfl, dictDisplay_pairs _ (fun e => by rw [e] at hl; cases hl) (by rw [hl]; show 1 < 17; decide)]
  refine wpAny_bind (wpAny_standAt (wpAny_bind (wpAny_subDictH (knd := tupleKind (mixKind X.prog X.w)) (show X.A.units < cLine by omega) (by rw [hl]; show 1 ≤ 15; decide) ?_)))
  refine pairTrees_cons_walk (thn (hk.run pins _ σ _ _ I1 (q _ hn)) fun u s1 ⟨x, H1, I2, rx, q2⟩ => thn (hv.run pins s1 σ H1 _ I2 q2) fun w s2 ⟨y, H2, I3, ry, e, b, kk, ex, eb, q3⟩ => pairTrees_nil_walk ?_)
  subst ex
  cases (show u = Value.ref b from rx)
  obtain ⟨z, hd, xs, rel, dd⟩ := dt_of I3.hok e
  cases rel
  refine ⟨[(kk, b, w)], ⟨rfl, rfl, key_of I3.hok eb, trivial⟩, dd, fun h' tk' dd' hs => wpAny_pure ⟨.ref s.heap.objs.size, _, ?_, rfl, q3⟩⟩
  obtain ⟨qo, es, ep, hq, h2, h3, h4, _, h5⟩ := dd'
  have hne : b ≠ s.heap.objs.size := ne_of eb e (fun z => nomatch z)
  refine d_write I3 (by rw [e]; exact True.intro) hs ⟨qo, hq⟩ ⟨by show 1 ≤ sizeLine; decide, hd, _, .cons ⟨rfl, ?_, ry⟩ .nil, qo, es, ep, hq, h2, h3, h4, h5⟩
  show (L2.upd H2 s.heap.objs.size _) b = _
  rw [upd_ne hne]
  exact eb
theorem k_sIn (w : World) (h : X.w = w) : OpR X (compareOp .In) (rSIn w) := by subst h; exact or_sin
theorem k_setLW (K : PySem.W.Frag) (w : World) (h : X.K = K) (hw : X.w = w) (hc : X.calm = true) : CallR X (.type "set") (rSetL K w) := by subst hw; exact k_setL K h hc
end
/-! ### texts -/
theorem bS_tl (bs : List Bool) : (bS bs).cps.toList = bs.map sgn := by unfold bS; simp
theorem find_at {bs : List Bool} {i : Nat} : StrLaws.At (bS bs) (bS [false]) (bS bs).length i ↔ bs[i]? = some false := by
  have h := StrLaws.subAt_one (bS bs) 48 i
  show (i + (⟨#[48]⟩ : Str).length ≤ (bS bs).length ∧ Builtin.Str.subAt (bS bs) ⟨#[48]⟩ i = true) ↔ _
  rw [h, bS_tl, List.getElem?_map]
  constructor
  · intro e
    obtain ⟨b, hb, eb⟩ := Option.map_eq_some_iff.mp e
    cases b with
    | false => exact hb
    | true => simp [sgn] at eb
  · intro e
    rw [e]
    rfl
theorem range'_splitN {s n a : Nat} {pre post : List Nat} (h : List.range' s n = pre ++ a :: post) : a < s + n ∧ s ≤ a ∧ ∀ k, s ≤ k → k < a → k ∈ pre := by
  have hm : a ∈ List.range' s n := by rw [h]; simp
  have hr := List.mem_range'_1.mp hm
  refine ⟨hr.2, hr.1, fun k h1 h2 => ?_⟩
  have hk : k ∈ List.range' s n := List.mem_range'_1.mpr ⟨h1, by omega⟩
  rw [h] at hk
  rcases List.mem_append.mp hk with hk | hk
  · exact hk
  · rcases List.mem_cons.mp hk with hk | hk
    · omega
    · have pw : (List.range' s n).Pairwise (· < ·) := List.pairwise_lt_range'
      rw [h] at pw
      have := (List.pairwise_cons.mp (List.pairwise_append.mp pw).2.1).1 k hk
      omega
/-- the first 0 from a place on -/
theorem find_zero {bs : List Bool} {p : Nat} (hp : p ≤ bs.length) : Txt.find3 (bS bs) (bS [false]) (p : Int) = if p + ones (bs.drop p) < bs.length then ((p + ones (bs.drop p) : Nat) : Int) else -1 := by
  unfold Txt.find3
  have ef : fromIndex (bS bs).length (p : Int) = p := by
    unfold fromIndex
    rw [if_neg (by omega)]
    omega
  rw [ef, StrLaws.occ_eq]
  have key := StrLaws.occ_first (bS bs) (bS [false]) (bS bs).length 1 (Nat.le_refl 1) (List.range' p ((bS bs).length + 1 - p)) p (fun i hi => (List.mem_range'_1.mp hi).1)
  generalize (forIn (List.range' p ((bS bs).length + 1 - p)) ((#[] : Array Nat), p) (StrLaws.occBody (bS bs) (bS [false]) (bS bs).length 1)).run.fst = arr at key
  have hl : (bS bs).length = bs.length := bS_len bs
  rcases key with ⟨h0, hn⟩ | ⟨pre, a, post, e, h0, ha, hn⟩
  · rw [if_neg, h0]
    intro hlt
    have h1 := ones_stop (bs.drop p)
    have h2 : (bs.drop p)[ones (bs.drop p)]? = some false := by
      have h3 : ones (bs.drop p) < (bs.drop p).length := by rw [List.length_drop]; omega
      rw [List.getElem?_eq_getElem h3] at h1 ⊢
      cases h4 : (bs.drop p)[ones (bs.drop p)] with
      | true => rw [h4] at h1; exact absurd rfl h1
      | false => rfl
    rw [List.getElem?_drop] at h2
    exact hn _ (List.mem_range'_1.mpr ⟨by omega, by rw [hl]; omega⟩) (find_at.mpr h2)
  · obtain ⟨s1, s2, s3⟩ := range'_splitN e
    have ha' := find_at.mp ha
    have eo : ones (bs.drop p) = a - p := by
      refine ones_uniq (fun i hi => ?_) ?_
      · rw [List.getElem?_drop]
        have hx := hn (p + i) (s3 _ (by omega) (by omega))
        rw [find_at] at hx
        have hlt : p + i < bs.length := by
          have := (List.getElem?_eq_some_iff.mp ha').1
          omega
        rw [List.getElem?_eq_getElem hlt] at hx ⊢
        cases hb : bs[p + i] with
        | true => rfl
        | false => rw [hb] at hx; exact absurd rfl hx
      · rw [List.getElem?_drop]
        have : p + (a - p) = a := by omega
        rw [this, ha']
        simp
    have hlt := (List.getElem?_eq_some_iff.mp ha').1
    rw [if_pos (by omega)]
    have h1 : arr.toList[0]? = some a := by simpa using h0
    cases hL : arr.toList with
    | nil => rw [hL] at h1; cases h1
    | cons b t =>
      rw [hL] at h1
      simp at h1
      subst h1
      show ((b : Nat) : Int) = _
      omega
theorem bS_mul1 (k : Nat) : Txt.mul (("1" : String) : Str) (k : Int) = bS (List.replicate k true) := by
  rw [str_one]
  unfold Txt.mul
  by_cases h0 : (k : Int) < 1
  · rw [if_pos h0, show k = 0 by omega]
    rfl
  · rw [if_neg h0]
    by_cases h1 : k = 1
    · subst h1
      rfl
    · rw [if_neg (by
        rw [Bool.or_eq_true, beq_iff_eq, beq_iff_eq, bS_len]
        simp
        omega), Int.toNat_natCast]
      have := reps_list [49] k []
      unfold bS
      rw [List.map_replicate]
      show (⟨(List.replicate k ([49] : List Nat).toArray).foldl (· ++ ·) ([] : List Nat).toArray⟩ : Str) = _
      rw [this, List.nil_append]
      have e : (List.replicate k [49]).flatten = List.replicate k 49 := by
        clear this h0 h1
        induction k with
        | zero => rfl
        | succ k ih => rw [List.replicate_succ, List.flatten_cons, ih, List.replicate_succ]; rfl
      rw [e]
      rfl
theorem bit_int (b : Bool) : PySem.intText? (bS [b]) = some (b.toNat : Int) := by cases b <;> decide +kernel
theorem str_01 : (("01" : String) : Str) = bS [false, true] := by decide +kernel
theorem str_10 : (("10" : String) : Str) = bS [true, false] := by decide +kernel
theorem join_texts (ts : List (List Bool)) : Txt.join (("" : String) : Str) (ts.map bS) = bS ts.flatten := by
  rw [TL.join_eq]
  have e0 : TL.tl ((("" : String) : Str)) = [] := by rw [str_nil]; rfl
  have key : ∀ ts : List (List Bool), TL.joinL [] ((ts.map bS).map TL.tl) = ts.flatten.map sgn := by
    intro ts
    induction ts with
    | nil => rfl
    | cons b r ih =>
      have eb : TL.tl (bS b) = b.map sgn := bS_tl b
      cases r with
      | nil =>
        show TL.tl (bS b) = _
        rw [eb]
        simp
      | cons c q =>
        show TL.tl (bS b) ++ ([] ++ TL.joinL [] (((c :: q).map bS).map TL.tl)) = _
        rw [ih, eb]
        simp
  have h := TL.tl_join (("" : String) : Str) (ts.map bS)
  rw [e0, key] at h
  show _ = (⟨(ts.flatten.map sgn).toArray⟩ : Str)
  rw [← h]
end My

namespace My
open PySem PySem.Spec PyProof.Rows L2 Pre
/-! ### texts of bits: slices, numbers, lists of counts -/
theorem shrN (a k : Nat) : (a : Int) / 2 ^ ((k : Int)).toNat = ((a / 2 ^ k : Nat) : Int) := by
  rw [Int.toNat_natCast, Int.natCast_ediv, Int.natCast_pow]
  rfl
theorem shlN (a k : Nat) : (a : Int) * 2 ^ ((k : Int)).toNat = ((a * 2 ^ k : Nat) : Int) := by
  rw [Int.toNat_natCast, Int.natCast_mul, Int.natCast_pow]
  rfl
theorem and1N (n : Nat) : Builtin.bitAnd (n : Int) 1 = ((n % 2 : Nat) : Int) := by
  rw [bitAnd_m1]
  omega
theorem small4 {n : Nat} (h : n ≤ 100000) : n < sizeLine := by rw [sizeLine_eq]; omega
theorem cut_list {α : Type} (l : List α) (i j : Nat) : (l.drop (min i l.length)).take (min j l.length - min i l.length) = (l.drop i).take (j - i) := by
  rcases Nat.le_total i l.length with h | h
  · rw [Nat.min_eq_left h]
    rcases Nat.le_total j l.length with k | k
    · rw [Nat.min_eq_left k]
    · rw [Nat.min_eq_right k, List.take_of_length_le (l := l.drop i) (i := l.length - i) (by rw [List.length_drop]; exact Nat.le_refl _), List.take_of_length_le (by rw [List.length_drop]; omega)]
  · rw [Nat.min_eq_right h, List.drop_of_length_le (Nat.le_refl _), List.drop_of_length_le h]
    simp
theorem bS_list (bs : List Bool) : (bS bs).cps.toList = bs.map sgn := by unfold bS; simp
theorem cut_bS (bs : List Bool) (i j : Nat) : cutS (bS bs) (some (i : Int)) (some (j : Int)) = bS ((bs.drop i).take (j - i)) := by
  unfold cutS
  rw [HT.sIx_nat, HT.sIx_nat, bS_list, bS_len]
  have h := cut_list (bs.map sgn) i j
  rw [List.length_map] at h
  rw [h, ← List.map_drop, ← List.map_take]
  rfl
theorem cut_bSd (bs : List Bool) (i : Nat) : cutS (bS bs) (some (i : Int)) none = bS (bs.drop i) := by
  unfold cutS
  rw [HT.sIx_nat, HT.sIx_none, bS_list, bS_len]
  have h := cut_list (bs.map sgn) i bs.length
  rw [List.length_map, Nat.min_self] at h
  rw [h, ← List.map_drop, ← List.map_take, List.take_of_length_le (by rw [List.length_drop]; exact Nat.le_refl _)]
  rfl
theorem cut_bSt (bs : List Bool) (j : Nat) : cutS (bS bs) none (some (j : Int)) = bS (bs.take j) := by
  unfold cutS
  rw [HT.sIx_nat, HT.sIx_none, bS_list, bS_len]
  have h := cut_list (bs.map sgn) 0 j
  rw [List.length_map, Nat.zero_min] at h
  rw [h, List.drop_zero, Nat.sub_zero, ← List.map_take]
  rfl
theorem bB_get (n : Nat) : ∀ k i, i < k → (bB n k)[i]? = some (n / 2 ^ (k - 1 - i) % 2 == 1)
  | k + 1, 0, _ => by unfold bB; simp
  | k + 1, i + 1, h => by
    unfold bB
    rw [List.getElem?_cons_succ, bB_get n k i (by omega)]
    have : k - 1 - i = k + 1 - 1 - (i + 1) := by omega
    rw [this]
theorem bit_nat (x : Nat) : x % 2 = (x % 2 == 1).toNat := by
  rcases Nat.mod_two_eq_zero_or_one x with h | h <;> rw [h] <;> rfl
theorem fm_noneN {α β : Type} (l : List α) : (l.map fun _ => (none : Option β)).filterMap id = [] := by
  induction l with
  | nil => rfl
  | cons n r ih => simp
theorem sign_01 (b : Bool) : decide (sgn b ∈ ((("01" : String) : Str)).cps.toList) = true := by
  have e : (("01" : String) : Str).cps.toList = [48, 49] := by decide +kernel
  rw [e]
  cases b <;> decide
/-- a list of counts -/
abbrev nI (fs : List Nat) : List Int := fs.map fun (n : Nat) => (n : Int)
theorem nI_len (fs : List Nat) : ((nI fs).map V.int).length = fs.length := by rw [List.length_map, List.length_map]
theorem nI_at {fs : List Nat} {i : Nat} {x : V} (h : ((nI fs).map V.int)[i]? = some x) : ∃ n : Nat, fs[i]? = some n ∧ x = .int n := by
  obtain ⟨n, hn, rfl⟩ := int_at h
  rw [List.getElem?_map] at hn
  obtain ⟨m, hm, rfl⟩ := Option.map_eq_some_iff.mp hn
  exact ⟨m, hm, rfl⟩
theorem nI_get {fs : List Nat} {i n : Nat} (h : fs[i]? = some n) : ((nI fs).map V.int)[i]? = some (.int n) := by
  rw [List.getElem?_map, List.getElem?_map, h]
  rfl
theorem nI_inj {a b : List Nat} : nI a = nI b ↔ a = b := ⟨fun h => (List.map_inj_right fun x y e => by omega).mp h, fun h => by rw [h]⟩
theorem bool_nat (b : Bool) : (if b = true then (1 : Int) else 0) = ((b.toNat : Nat) : Int) := by cases b <;> rfl
theorem bit_int' (b : Bool) : PySem.intText? (bS [b]) = some (b.toNat : Int) := by cases b <;> decide +kernel
theorem vF_take {bs : List Bool} {i : Nat} {b : Bool} (h : bs[i]? = some b) : vF 0 (bs.take (i + 1)) = 2 * vF 0 (bs.take i) + b.toNat := by
  rw [List.take_add_one, h, vF_app]
  rfl
end My

namespace My
open PySem PySem.Spec PyProof.Rows L2 Pre
/-! ### z[::-1] of a text -/
def revS (z : Str) : Str := ⟨z.cps.toList.reverse.toArray⟩
theorem revS_ix (n : Nat) : Builtin.Str.strSliceIndices none none (-1) n = (List.range n).reverse := by
  have e : Builtin.Str.strSliceIndices none none (-1) n = sliceRange ((n : Int) - 1) (-1) (-1) := rfl
  rw [e, PySem.W.krv_sliceRange, PySem.W.krv_range]
def tRevS (te : TE) : TE := fun σ H Q => te σ H fun x H1 => ∃ z : Str, x = .str z ∧ z.length ≤ sizeLine ∧ Q (.str (revS z)) H1
theorem pe_revS {X : Cx} {e : Expr} {te : TE} {k : Nat} {p1 p2 p3 pos : Pos} (he : PE X e te) : PE X (.Subscript e (.Slice none none (some (.UnaryOp .USub (.Constant (.int 1) k p1) p2)) p3) pos) (tRevS te) := by
  refine ⟨fun pins s σ H Q I h => ?_⟩
  refine Subscript_ (thn (he.run pins s σ H _ I h) fun v s1 ⟨x, H1, I1, r1, q1⟩ => ?_)
  obtain ⟨z, ex, hz, q⟩ := q1
  subst ex
  obtain ⟨t, rfl⟩ := r1
  have hst : PO X (some (.UnaryOp .USub (.Constant (.int 1) k p1) p2)) (tPart (tUn (rU fun i => .int (-i)) (tC (.int 1)))) := po_some (pe_un un_neg pe_int)
  refine wpAny_Slice (thn (po_none.run pins s1 σ H1 (fun o H2 => o = none ∧ H2 = H1) I1 ⟨rfl, rfl⟩) fun vl s2 ⟨l, H2, I2, pl, el, e2⟩ => ?_)
  subst el e2
  refine thn (po_none.run pins s2 σ H2 (fun o H3 => o = none ∧ H3 = H2) I2 ⟨rfl, rfl⟩) fun vu s3 ⟨u, H3, I3, pu, eu, e3⟩ => ?_
  subst eu e3
  refine thn (hst.run pins s3 σ H3 (fun o H4 => o = some (-1) ∧ H4 = H3) I3 ⟨1, rfl, -1, rfl, rfl, rfl⟩) fun vs s4 ⟨o, H4, I4, ps, eo, e4⟩ => ?_
  subst eo e4
  obtain ⟨l, rfl, el⟩ := IsPart.raw pl
  obtain ⟨u, rfl, eu⟩ := IsPart.raw pu
  obtain ⟨st, rfl, es⟩ := IsPart.raw ps
  have I5 : Inv X pins σ H4 { s4 with heap := s4.heap.push { cls := .type "slice", data := .fields #[partValue l, partValue u, partValue st] } } := I4.kept (t' := s4.toks) fun b ob q => Heap.get?_push_of_some _ q
  show wpAny (model X.prog X.w) X.A (subscriptTail e (.Slice none none (some (.UnaryOp .USub (.Constant (.int 1) k p1) p2)) p3) (.str z t) (.ref s4.heap.objs.size)) (EP X pins σ Q) X.xe { s4 with heap := s4.heap.push { cls := .type "slice", data := .fields #[partValue l, partValue u, partValue st] } }
  refine tail_any (ops := [.str z t, .ref s4.heap.objs.size]) (typeIs_str _ z t) (F.slot_str_getitem.lookup) ?_ (by with_unfolding_all rfl)
  refine wpAny_getItem_str_slice (l := l) (u := u) (st := st) ⟨_, Heap.get?_push_size _ rfl, rfl, rfl⟩ (by rw [es]; rfl) ?_
  unfold sliceMade slicePicked
  rw [el, eu, es]
  show Made.post (if ((-1 : Int) == 1 && _) = true then Made.val (.str z t) else Made.str ⟨((Builtin.Str.strSliceIndices none none (-1) z.length).filterMap (z.cps[·]?)).toArray⟩) (EP X pins σ Q) _
  have e1 : ((-1 : Int) == 1) = false := rfl
  rw [e1, Bool.false_and, if_neg (by decide), revS_ix, List.filterMap_reverse, show List.filterMap (fun x => z.cps[x]?) (List.range z.length) = z.cps.toList from PySem.W.krv_all z.cps]
  exact ⟨by show (z.cps.toList.reverse.toArray).size ≤ _; rw [List.size_toArray, List.length_reverse, Array.length_toList]; exact hz, .str (revS z), H4, I5.tok _, ⟨_, rfl⟩, q⟩
theorem revS_bS (bs : List Bool) : revS (bS bs) = bS bs.reverse := by
  unfold revS
  rw [bS_list, ← List.map_reverse]
  rfl
end My

namespace My
open PySem PySem.Spec PyProof.Rows L2 Pre
/-! ### texts of bits, marks, and what is none -/
/-- what is no text of bits -/
def BadV (K : PySem.W.Frag) (H : Hp) (v : V) : Prop := (∃ z : Str, v = .str z ∧ z.cps.size ≤ 1000 ∧ PyData.strOk z = true ∧ ∃ (j c : Nat), z.cps[j]? = some c ∧ decide (c ∈ ((("01" : String) : Str)).cps.toList) = false) ∨ ∃ T : String, TyX K H v (.type T) ∧ kitB T "str" = some false
def BitsV (K : PySem.W.Frag) (H : Hp) (v : V) (b : Bool) : Prop := (∃ bs : List Bool, v = .str (bS bs) ∧ bs.length ≤ 100000 ∧ b = true) ∨ (BadV K H v ∧ b = false)
def MarkV (K : PySem.W.Frag) (H : Hp) (v : V) (b : Bool) : Prop := (∃ bs : List Bool, v = .str (bS bs) ∧ bs.length ≤ 100000 ∧ b = decide (2 ≤ bs.length ∧ bs.length ≤ 16)) ∨ (BadV K H v ∧ b = false)
theorem strok_at {z : Str} {c : Nat} (h : PyData.strOk z = true) (m : c ∈ z.cps.toList) : PyData.strOk ⟨#[c]⟩ = true := by
  unfold PyData.strOk at h ⊢
  rw [← Array.all_toList, List.all_eq_true] at h
  rw [← Array.all_toList, List.all_eq_true]
  intro d hd
  have e : d = c := by simpa using hd
  rw [e]
  exact h c m
/-- what stands in a bad text, no bit -/
def badL (z : Str) : List (Option PyData) := z.cps.toList.map fun c => if decide (c ∈ ((("01" : String) : Str)).cps.toList) = true then none else some (PyData.str ⟨#[c]⟩)
theorem strs_lay : ∀ {l : List Str}, (∀ x ∈ l, PyData.strOk x = true) → PyData.canLayAll0 (l.map PyData.str) = true ∧ PyData.depthAll (l.map PyData.str) = 0
  | [], _ => ⟨rfl, rfl⟩
  | x :: r, h => by
    obtain ⟨h1, h2⟩ := strs_lay (l := r) fun y hy => h y (List.mem_cons_of_mem _ hy)
    rw [List.map_cons]
    constructor
    · rw [PyData.canLayAll0, h1, PyData.canLay0, h x List.mem_cons_self]
      rfl
    · rw [PyData.depthAll, h2]
      rfl
theorem strs_shaped {l : List Str} (h : ∀ x ∈ l, PyData.strOk x = true) : SeqAt.shaped (.list (l.map PyData.str)) = true := by
  obtain ⟨h1, h2⟩ := strs_lay h
  unfold SeqAt.shaped
  rw [PyData.canLay0, h1, PyData.depth, h2]
  rfl
theorem badL_strs (z : Str) : ∃ l : List Str, (badL z).filterMap id = l.map PyData.str ∧ (PyData.strOk z = true → ∀ x ∈ l, PyData.strOk x = true) ∧ ((∃ (j c : Nat), z.cps[j]? = some c ∧ decide (c ∈ ((("01" : String) : Str)).cps.toList) = false) → l ≠ []) := by
  refine ⟨(z.cps.toList.filter fun c => !decide (c ∈ ((("01" : String) : Str)).cps.toList)).map fun c => ⟨#[c]⟩, ?_, ?_, ?_⟩
  · unfold badL
    generalize z.cps.toList = cs
    induction cs with
    | nil => rfl
    | cons c r ih =>
      rw [List.map_cons, List.filterMap_cons, List.filter_cons]
      by_cases h : decide (c ∈ ((("01" : String) : Str)).cps.toList) = true
      · rw [if_pos h, h, ih]
        rfl
      · rw [if_neg h, Bool.eq_false_iff.mpr h]
        show _ :: _ = _
        rw [ih]
        rfl
  · intro ok x hx
    obtain ⟨c, hc, rfl⟩ := List.mem_map.mp hx
    exact strok_at ok (List.mem_filter.mp hc).1
  · rintro ⟨j, c, hj, hc⟩ e
    have hm : c ∈ z.cps.toList := by
      rw [Array.mem_toList_iff]
      exact Array.mem_of_getElem? hj
    have h2 : c ∈ z.cps.toList.filter (fun c => !decide (c ∈ ((("01" : String) : Str)).cps.toList)) := List.mem_filter.mpr ⟨hm, by rw [hc]; rfl⟩
    rw [List.map_eq_nil_iff] at e
    rw [e] at h2
    cases h2
theorem cut_head (A : List Bool) (z : Bool) : cutS (bS (A ++ [z])) none (some (-1)) = bS A := by
  unfold cutS
  have e : HT.sIx (bS (A ++ [z])).length (bS (A ++ [z])).length (some (-1)) = A.length := by
    show (if (-1 : Int) < 0 then ((-1 : Int) + (((bS (A ++ [z])).length : Nat) : Int)).toNat else min (-1 : Int).toNat (bS (A ++ [z])).length) = _
    rw [if_pos (by decide), bS_len, List.length_append, List.length_singleton]
    omega
  rw [e, HT.sIx_none, bS_list, List.drop_zero, Nat.sub_zero, List.map_append, List.take_append_of_le_length (Nat.le_of_eq (List.length_map sgn).symm), List.take_of_length_le (Nat.le_of_eq (List.length_map sgn))]
  rfl
theorem cut_back (bs : List Bool) (k : Nat) (hk : 0 < k) : cutS (bS bs) (some (-(k : Int))) none = bS (bs.drop (bs.length - k)) := by
  unfold cutS
  have e : HT.sIx (bS bs).length 0 (some (-(k : Int))) = bs.length - k := by
    show (if (-(k : Int)) < 0 then (-(k : Int) + (((bS bs).length : Nat) : Int)).toNat else min (-(k : Int)).toNat (bS bs).length) = _
    rw [if_pos (by omega), bS_len]
    omega
  rw [e, HT.sIx_none, bS_list, bS_len, List.take_of_length_le (by rw [List.length_drop, List.length_map]; exact Nat.le_refl _), ← List.map_drop]
  rfl
theorem at_last (A : List Bool) (z : Bool) : atI (bS (A ++ [z])).cps.toList (-1) = some (sgn z) := by
  rw [bS_list, List.map_append]
  exact atI_last _ _
theorem bS_muls (z : Bool) (k : Nat) : Txt.mul (bS [z]) (k : Int) = bS (List.replicate k z) := by
  cases z with
  | true => rw [← str_one]; exact bS_mul1 k
  | false => rw [← str_zero]; exact bS_mul k
theorem zero_sign (b : Bool) : decide (V.str (bS [b]) = V.str (("0" : String) : Str)) = !b := by
  rw [str_zero, dec_bS]
  cases b <;> rfl
local macro_rules | `(tactic| walk_at "go") => `(tactic| repeat (first | (with_reducible first | refine iteT ?_ | refine iteF ?_ | refine iteNtt ?_ | refine iteNff ?_ | refine iteET (by omega) ?_ | refine iteEF (by omega) ?_ | refine iteENT (by omega) ?_ | refine iteENF (by omega) ?_ | refine iteDT (by omega) ?_ | refine iteDF (by omega) ?_ | refine iteNT (by omega) ?_ | refine iteNF (by omega) ?_) | refine ⟨_, rfl, ?_⟩ | refine ⟨_, _, rfl, rfl, ?_⟩ | refine ⟨_, _, rfl, ?_⟩ | refine ⟨rfl, ?_⟩ | refine .inl ⟨_, rfl, ?_⟩ | refine .inr ⟨_, rfl, ?_⟩))
local macro_rules | `(tactic| walk_at "b") => `(tactic| try dsimp (config := { proj := false, iota := false, eta := false, zeta := false }) only)
section
variable {P : Program} {w : World} {K : PySem.W.Frag} {mg : Str → Option Value} {base : Heap} [pf : Sup.PF P fileS]
def sp_is_bits (K : PySem.W.Frag) : Sp := fun vs H Q _ => ∃ (v : V) (b : Bool), vs = [v] ∧ BitsV K H v b ∧ ∀ H', Same H H' → Q (.bl b) H'
theorem G_is_bits (T : Top K mg) : FnOk P w K mg base CX0 1 T.f_is_bits T.fd_is_bits ["value"] (sp_is_bits K) := by
  refine T.F_is_bits.ok sc_is_bits (fun vs H Q E h => by obtain ⟨v, b, rfl, _⟩ := h; rfl) (fun cdv A outer s H vs Q E hr h => ?_)
  obtain ⟨v, b, rfl, hv, q⟩ := h
  refine ⟨_, PSs.nox (pss_one (ps_ret (pe_and (pe_callB (k_isi K rfl) (by rfl) T.n_isinstance (by decide +kernel) (pa_cons (pv 0) (pa_cons (pe_bltn (v := .ty "str") (by rfl) T.n_str (by decide +kernel) rfl) pa_nil))) (pe_one (pe_cmpR (k_eqD K rfl hr.units) (pe_lc (own := [("sign", 1)]) (g := gName 1) (by rfl) sc_is_bits.nd (pi_str (pv 0)) (blkOk_by (own := [("sign", 1)]) (N := N_is_bits) (sc := defScope s_is_bits) (by decide +kernel)) (fun _ _ _ _ _ => (pg_name (i := 1) sc_is_bits.nd rfl (by first | exact Or.inl rfl | exact Or.inr rfl))) (fun _ _ _ _ _ => (pts_one (pt_cmpR op_notIn_sign (pv 1) pe_str (by rfl)))) (fun _ _ _ _ _ => (pv 1))) (pe_lst pa_nil) (nomark _)))))), ?_⟩
  rcases hv with ⟨bs, rfl, hz, rfl⟩ | ⟨⟨z, rfl, hz, hok, hbad⟩ | ⟨T, ty, hT⟩, rfl⟩
  · refine ⟨_, rfl, _, _, _, _, true, rfl, .ty _, .base (.str _), kit_ty (by decide +kernel), true, rfl, iteT ?_⟩
    refine ⟨_, rfl, _, rfl, fun D nD => ?_⟩
    refine lc_dW walk_str (Has.nil (H := H)) ((List.range bs.length).map fun _ => none) nD (by rw [List.length_map, List.length_range, bS_size]) (by rw [bS_size]; exact small4 hz) (fun _ _ => trivial) ?_ ?_
    · rintro i o H0 x H' hi ho s0 hS ⟨rfl, c, hc, rfl⟩ Qt qt
      obtain ⟨b, hb, ec⟩ := bS_at hc
      rw [ec]
      refine ⟨rfl, ?_⟩
      rw [List.getElem?_map] at ho
      obtain ⟨_, _, rfl⟩ := Option.map_eq_some_iff.mp ho
      refine ⟨_, rfl, sgn b, _, rfl, rfl, _, rfl, ?_⟩
      rw [sign_01]
      exact iteF (qt none _ (Same.refl _) trivial)
    · intro H' s hD hd
      rw [fm_noneN] at hd
      rw [rs_nil] at hd
      obtain ⟨a, xs, e, ha, hx⟩ := hd.listE
      cases e
      cases hx
      refine ⟨Nat.zero_le _, fun p np => ?_⟩
      refine eq_lst (ns := []) (.inl (.inl (same_upd np _ _ ha))) (.inl (.inl upd_same)) ?_
      exact q _ (s.trans (same_upd np))
  · obtain ⟨l, el, hl, hne⟩ := badL_strs z
    refine ⟨_, rfl, _, _, _, _, true, rfl, .ty _, .base (.str _), kit_ty (by decide +kernel), true, rfl, iteT ?_⟩
    refine ⟨_, rfl, _, rfl, fun D nD => ?_⟩
    refine lc_dW walk_str (Has.nil (H := H)) (badL z) nD (by unfold badL; rw [List.length_map, Array.length_toList]) (small4 (by omega)) (fun _ _ => trivial) ?_ ?_
    · rintro i o H0 x H' hi ho s0 hS ⟨rfl, c, hc, rfl⟩ Qt qt
      refine ⟨rfl, ?_⟩
      unfold badL at ho
      rw [List.getElem?_map, Array.getElem?_toList, hc] at ho
      refine ⟨_, rfl, c, _, rfl, rfl, _, rfl, ?_⟩
      by_cases hd : decide (c ∈ ((("01" : String) : Str)).cps.toList) = true
      · rw [Option.map_some, if_pos hd] at ho
        cases ho
        rw [hd]
        exact iteF (qt none _ (Same.refl _) trivial)
      · rw [Option.map_some, if_neg hd] at ho
        cases ho
        rw [Bool.eq_false_iff.mpr hd]
        exact iteT ⟨_, rfl, qt _ _ (Same.refl _) (.str _)⟩
    · intro H' s hD hd
      rw [rs_nil, el] at hd
      refine ⟨Nat.zero_le _, fun p np => ?_⟩
      obtain ⟨a, xs, e, ha, hx⟩ := hd.listE
      cases e
      refine ⟨_, _, (Dt.same (same_upd np) hd).dp, .lst (.inl (.inl upd_same)) .nil, strs_shaped (hl hok), rfl, ?_⟩
      have e0 : PyData.eqv (.list (l.map PyData.str)) (.list []) = false := by
        cases l with
        | nil => exact absurd rfl (hne hbad)
        | cons y r => rfl
      rw [e0]
      exact q _ (s.trans (same_upd np))
  · refine ⟨_, rfl, _, _, _, _, false, rfl, .ty _, ty, kit_ty hT, false, rfl, iteF ?_⟩
    exact q _ (Same.refl _)
def sp_check_bits (K : PySem.W.Frag) (C : Addr) : Sp := fun vs H Q E => ∃ (v : V) (b : Bool), vs = [v] ∧ BitsV K H v b ∧ (b = true → ∀ H', Same H H' → Q .non H') ∧ (b = false → ∀ H' d, Same H H' → H' d = none → E (.ref C) (some d) (upd H' d (.xd [("value", v)])))
def sp_is_mark (K : PySem.W.Frag) : Sp := fun vs H Q _ => ∃ (v : V) (b : Bool), vs = [v] ∧ MarkV K H v b ∧ ∀ H', Same H H' → Q (.bl b) H'
theorem G_is_mark (T : Top K mg) : FnOk P w K mg base CX0 2 T.f_is_mark T.fd_is_mark ["value"] (sp_is_mark K) := by
  refine T.F_is_mark.ok sc_is_mark (fun vs H Q E h => by obtain ⟨v, b, rfl, _⟩ := h; rfl) (fun cdv A outer s H vs Q E hr h => ?_)
  obtain ⟨v, b, rfl, hv, q⟩ := h
  refine ⟨_, PSs.nox (pss_one (ps_ret (pe_and (pe_call (G_is_bits (P := P) T) (hr.mono (by decide)) (by rfl) T.g_is_bits T.F_is_bits.kp T.b_is_bits .nil pass0 (pa_cons (pv 0) pa_nil)) (pe_one (pe_chain op_le op_le pe_int (pe_callB call_len_str (by rfl) T.n_len (by decide +kernel) (pa_cons (pv 0) pa_nil)) (pe_glob (v := .int 16) rfl T.m_MOST_MARK ⟨_, rfl⟩)))))), ?_⟩
  rcases hv with ⟨bs, rfl, hz, rfl⟩ | ⟨hv, rfl⟩
  · refine ⟨_, rfl, _, true, rfl, .inl ⟨bs, rfl, hz, rfl⟩, fun H' s => ⟨true, rfl, iteT ?_⟩⟩
    refine ⟨_, rfl, _, rfl, Nat.le_trans (Nat.le_of_eq (bS_len bs)) (Nat.le_of_lt (small4 hz)), ?_⟩
    rw [bS_len]
    refine ⟨_, _, rfl, rfl, _, rfl, ?_⟩
    by_cases h : 2 ≤ bs.length
    · rw [decide_eq_true (show (2 : Int) ≤ (bs.length : Nat) by omega)]
      refine iteT ⟨_, _, rfl, rfl, ?_⟩
      have e : decide (((bs.length : Nat) : Int) ≤ 16) = decide (2 ≤ bs.length ∧ bs.length ≤ 16) := by
        by_cases h2 : bs.length ≤ 16
        · rw [decide_eq_true (show ((bs.length : Nat) : Int) ≤ 16 by omega), decide_eq_true ⟨h, h2⟩]
        · rw [decide_eq_false (show ¬ ((bs.length : Nat) : Int) ≤ 16 by omega), decide_eq_false fun z => h2 z.2]
      dsimp only
      rw [e]
      exact q _ s
    · rw [decide_eq_false (show ¬ (2 : Int) ≤ (bs.length : Nat) by omega)]
      have := q _ s
      rw [decide_eq_false fun z => h z.1] at this
      exact iteF this
  · exact ⟨_, rfl, _, false, rfl, .inr ⟨hv, rfl⟩, fun H' s => ⟨false, rfl, iteF (q _ s)⟩⟩
def sp_check_mark (K : PySem.W.Frag) (C : Addr) : Sp := fun vs H Q E => ∃ (v : V) (b : Bool), vs = [v] ∧ MarkV K H v b ∧ (b = true → ∀ H', Same H H' → Q .non H') ∧ (b = false → ∀ H' d, Same H H' → H' d = none → E (.ref C) (some d) (upd H' d (.xd [("value", v)])))
theorem G_check_mark (T : Top K mg) : FnOk P w K mg base (L2.CX P w) 3 T.f_check_mark T.fd_check_mark ["mark"] (sp_check_mark K T.C_InvalidMark) := by
  refine T.F_check_mark.ok (CX := L2.CX P w) sc_check_mark (fun vs H Q E h => by obtain ⟨v, b, rfl, _⟩ := h; rfl) (fun cdv A outer s H vs Q E hr h => ?_)
  obtain ⟨v, b, rfl, hv, q1, q2⟩ := h
  refine ⟨_, (pss_one (ps_if (pt_not (pt_val (pe_call (G_is_mark (P := P) T) (hr.mono (by decide)) (by rfl) T.g_is_mark T.F_is_mark.kp T.b_is_mark .nil pass0 (pa_cons (pv 0) pa_nil))))
    (pss_one (ps_raise rfl (takes_of rfl rfl rfl rfl) (pmk_oex T.er_InvalidMark.sup.T T.er_InvalidMark.ini T.er_InvalidMark.ity (G_InvalidMark___init__ (P := P) (CX := CX0) T) (hr.mono (by decide)) T.er_InvalidMark.bnd .nil pass0 (by rfl) T.gc_InvalidMark (pa_cons (pv 0) pa_nil))))
    pss_nil)), ?_⟩
  refine ⟨_, rfl, v, b, rfl, hv, fun H' s => ⟨_, rfl, ?_⟩⟩
  cases b with
  | true => exact iteF (q1 rfl _ s)
  | false => exact iteT ⟨_, rfl, mk_sup fun d nd => q2 rfl _ d s nd⟩
def sp_bit_put_in : Sp := fun vs H Q _ => ∃ (A : List Bool) (z : Bool), vs = [.str (bS (A ++ [z]))] ∧ A.length ≤ 100 ∧ Q (.str (bS [!z])) H
theorem G_bit_put_in (T : Top K mg) : FnOk P w K mg base CX0 1 T.f_bit_put_in T.fd_bit_put_in ["mark"] sp_bit_put_in := by
  refine T.F_bit_put_in.ok sc_bit_put_in (fun vs H Q E h => by obtain ⟨A, z, rfl, _⟩ := h; rfl) (fun cdv A outer s H vs Q E hr h => ?_)
  obtain ⟨A, z, rfl, hz, q⟩ := h
  refine ⟨_, PSs.nox (pss_one (ps_ret (pe_ifExp (pt_cmpR op_eq (pe_ix ix_str (pv 0) (pe_un un_neg pe_int) (fun _ _ => rfl)) pe_str (nomark _)) pe_str pe_str))), ?_⟩
  refine ⟨_, rfl, _, rfl, _, _, sgn z, rfl, rfl, by rw [bS_len, List.length_append, sizeLine_eq]; simp; omega, at_last A z, ?_⟩
  dsimp only
  refine ⟨rfl, _, rfl, ?_⟩
  rw [bS_one, zero_sign]
  cases z with
  | true => exact iteF (by rw [str_zero]; exact q)
  | false => exact iteT (by rw [str_one]; exact q)
end
end My

namespace My
open PySem PySem.Spec PyProof.Rows L2 Pre
/-! ### rows without a mark, in a program -/
/-- what is no mark that can be kept -/
def BadM (K : PySem.W.Frag) (H : Hp) (v : V) : Prop := MarkV K H v false ∨ ∃ (A : List Bool) (z : Bool), v = .str (bS (A ++ [z])) ∧ 1 ≤ A.length ∧ A.length ≤ 15 ∧ A = List.replicate A.length (!z)
theorem mark_true {K : PySem.W.Frag} {H : Hp} {A : List Bool} {z : Bool} (h1 : 1 ≤ A.length) (h2 : A.length ≤ 15) : MarkV K H (.str (bS (A ++ [z]))) true :=
  .inl ⟨A ++ [z], rfl, by rw [List.length_append, List.length_singleton]; omega, (decide_eq_true (by rw [List.length_append, List.length_singleton]; omega)).symm⟩
theorem _root_.L2.TyX.same {K : PySem.W.Frag} {H H' : Hp} {v : V} {t : Value} (s : Same H H') (h : TyX K H v t) : TyX K H' v t := by
  cases h with
  | base b => exact .base (by
    cases b with
    | non => exact .non
    | bl y => exact .bl y
    | int i => exact .int i
    | str y => exact .str y
    | flt y => exact .flt y
    | lst e => exact .lst (s _ _ e)
    | frz e => exact .frz (s _ _ e)
    | tup e => exact .tup (s _ _ e)
    | dK e => exact .dK (s _ _ e)
    | dT e => exact .dT (s _ _ e)
    | ins e cl ha hn htk hm => exact .ins (s _ _ e) cl ha hn htk hm)
  | byt b => exact .byt b
  | set e => exact .set (s _ _ e)
  | kList e c => exact .kList e c
  | kTuple e c => exact .kTuple e c
  | kDict e c => exact .kDict e c
  | fTuple e => exact .fTuple (s _ _ e)
  | fDict e => exact .fDict (s _ _ e)
theorem BadV.same {K : PySem.W.Frag} {H H' : Hp} {v : V} (s : Same H H') (h : BadV K H v) : BadV K H' v := by
  rcases h with h | ⟨T, ty, e⟩
  · exact .inl h
  · exact .inr ⟨T, ty.same s, e⟩
theorem MarkV.same {K : PySem.W.Frag} {H H' : Hp} {v : V} {b : Bool} (s : Same H H') (h : MarkV K H v b) : MarkV K H' v b := by
  rcases h with h | ⟨h, e⟩
  · exact .inl h
  · exact .inr ⟨h.same s, e⟩
theorem BadM.same {K : PySem.W.Frag} {H H' : Hp} {v : V} (s : Same H H') (h : BadM K H v) : BadM K H' v := by
  rcases h with h | h
  · exact .inl (h.same s)
  · exact .inr h
/-- the signs of a row, each a text -/
def sg (t : List Bool) : List V := t.map fun b => V.str (bS [b])
theorem sg_snoc (t : List Bool) (b : Bool) : sg t ++ [V.str (bS [b])] = sg (t ++ [b]) := by unfold sg; rw [List.map_append]; rfl
theorem join_sg {K : PySem.W.Frag} {H : Hp} {a : Addr} {t : List Bool} {Q : VK} (h : H a = some (.lst (sg t))) (hz : t.length ≤ 100000) (q : Q (.str (bS t)) H) :
    ∃ (x : Str) (p : Addr) (ys : List Str), V.str (("" : String) : Str) = V.str x ∧ [V.ref a] = [V.ref p] ∧ (SqL K H p (ys.map V.str) ∨ SqT K H p (ys.map V.str)) ∧ (ys.map fun x => x.length).sum + ys.length * x.length ≤ 16777216 ∧ Q (V.str (Txt.join x ys)) H := by
  refine ⟨_, a, t.map fun b => bS [b], rfl, rfl, .inl (.inl (.inl ?_)), ?_, ?_⟩
  · rw [h, List.map_map]
    rfl
  · have e0 : ((("" : String) : Str)).length = 0 := by rw [str_nil]; rfl
    rw [List.map_map, e0, Nat.mul_zero]
    have : ∀ l : List Bool, (l.map ((fun z : Str => z.length) ∘ fun b => bS [b])).sum = l.length := fun l => by
      induction l with
      | nil => rfl
      | cons b r ih => rw [List.map_cons, List.sum_cons, ih, List.length_cons]; show 1 + _ = _; omega
    have hz2 : (t.map ((fun x : Str => x.length) ∘ fun b => bS [b])).sum = t.length := this t
    exact Nat.le_trans (Nat.le_of_eq hz2) (by omega)
  · rw [join_bits]
    exact q
local macro_rules | `(tactic| walk_at "go") => `(tactic| repeat (first | (with_reducible first | refine iteT ?_ | refine iteF ?_ | refine iteNtt ?_ | refine iteNff ?_ | refine iteET (by omega) ?_ | refine iteEF (by omega) ?_ | refine iteENT (by omega) ?_ | refine iteENF (by omega) ?_ | refine iteDT (by omega) ?_ | refine iteDF (by omega) ?_ | refine iteNT (by omega) ?_ | refine iteNF (by omega) ?_) | refine ⟨_, rfl, ?_⟩ | refine ⟨_, _, rfl, rfl, ?_⟩ | refine ⟨_, _, rfl, ?_⟩ | refine ⟨rfl, ?_⟩ | refine .inl ⟨_, rfl, ?_⟩ | refine .inr ⟨_, rfl, ?_⟩))
local macro_rules | `(tactic| walk_at "b") => `(tactic| try dsimp (config := { proj := false, iota := false, eta := false, zeta := false }) only)
section
variable {P : Program} {w : World} {K : PySem.W.Frag} {mg : Str → Option Value} {base : Heap} [pf : Sup.PF P fileS]
def sp_is_keepable (K : PySem.W.Frag) (C : Addr) : Sp := fun vs H Q E => ∃ v : V, vs = [v] ∧ ((∃ (A : List Bool) (z : Bool), v = .str (bS (A ++ [z])) ∧ 1 ≤ A.length ∧ A.length ≤ 15 ∧ ∀ H', Same H H' → Q (.bl (!decide (A = List.replicate A.length (!z)))) H') ∨
  (MarkV K H v false ∧ ∀ H' d, Same H H' → H' d = none → E (.ref C) (some d) (upd H' d (.xd [("value", v)]))))
theorem G_is_keepable (T : Top K mg) : FnOk P w K mg base (L2.CX P w) 4 T.f_is_keepable T.fd_is_keepable ["mark"] (sp_is_keepable K T.C_InvalidMark) := by
  refine T.F_is_keepable.ok (CX := L2.CX P w) sc_is_keepable (fun vs H Q E h => by obtain ⟨v, rfl, _⟩ := h; rfl) (fun cdv A outer s H vs Q E hr h => ?_)
  obtain ⟨v, rfl, h⟩ := h
  refine ⟨_, (pss_cons (ps_expr (pe_call (G_check_mark (P := P) T) (hr.mono (by decide)) (by rfl) T.g_check_mark T.F_check_mark.kp T.b_check_mark .nil (passes_call (takes_of rfl rfl rfl rfl) (fun _ _ _ _ h => h)) (pa_cons (pv 0) pa_nil)))
  (pss_one (ps_ret (pe_cmpR op_ne (pe_slice sl_str (pv 0) po_none (po_some (pe_un un_neg pe_int))) (pe_op op_rep_str (pe_call (G_bit_put_in (P := P) T) (hr.mono (by decide)) (by rfl) T.g_bit_put_in T.F_bit_put_in.kp T.b_bit_put_in .nil pass0 (pa_cons (pv 0) pa_nil)) (pe_op op_sub (pe_callB call_len_str (by rfl) T.n_len (by decide +kernel) (pa_cons (pv 0) pa_nil)) pe_int)) (nomark _))))), ?_⟩
  rcases h with ⟨A, z, rfl, h1, h2, q⟩ | ⟨hv, q⟩
  · refine ⟨_, rfl, _, true, rfl, mark_true h1 h2, fun _ H' s => ?_, (fun z => nomatch z)⟩
    have hl : (bS (A ++ [z])).length = A.length + 1 := by rw [bS_len, List.length_append, List.length_singleton]
    refine ⟨_, rfl, _, rfl, _, rfl, _, rfl, by rw [hl, sizeLine_eq]; omega, ?_⟩
    rw [cut_head]
    refine ⟨_, rfl, A, z, rfl, by omega, ?_⟩
    refine ⟨_, rfl, _, rfl, by rw [hl, sizeLine_eq]; omega, _, _, rfl, rfl, ?_⟩
    dsimp only
    rw [hl, show (((A.length + 1 : Nat) : Int) - 1) = ((A.length : Nat) : Int) by omega]
    refine ⟨_, A.length, rfl, rfl, by rw [bS_len]; show 1 ≤ 100; decide, by omega, ?_⟩
    rw [bS_muls]
    refine ⟨rfl, ?_⟩
    rw [dec_bS]
    exact q _ s
  · refine ⟨_, rfl, _, false, rfl, hv, (fun z => nomatch z), fun _ H' d s nd => q H' d s nd⟩
def sp_check_keepable (K : PySem.W.Frag) (C : Addr) : Sp := fun vs H Q E => ∃ v : V, vs = [v] ∧ ((∃ (A : List Bool) (z : Bool), v = .str (bS (A ++ [z])) ∧ 1 ≤ A.length ∧ A.length ≤ 15 ∧ Keep A z ∧ ∀ H', Same H H' → Q .non H') ∨
  (BadM K H v ∧ ∀ H' d, Same H H' → H' d = none → E (.ref C) (some d) (upd H' d (.xd [("value", v)]))))
theorem lastK_len (A t : List Bool) : (lastK A t).length ≤ A.length := by unfold lastK; rw [List.length_drop]; omega
theorem cut_last {A t : List Bool} {b : Bool} (h1 : 1 ≤ A.length) : cutS (bS (lastK A t) ++ bS [b]) (some (1 - ((A.length + 1 : Nat) : Int))) none = bS (lastK A (t ++ [b])) := by
  rw [show (1 - ((A.length + 1 : Nat) : Int)) = -((A.length : Nat) : Int) by omega, bS_app, cut_back _ _ (by omega), lastK_snoc]
theorem last_is (A t : List Bool) : decide (V.str (bS (lastK A t)) = V.str (bS A)) = decide (A <:+ t) := by
  rw [dec_bS]
  by_cases h : A <:+ t
  · rw [decide_eq_true h, decide_eq_true ((lastK_iff A t).mpr h)]
  · rw [decide_eq_false h, decide_eq_false fun z => h ((lastK_iff A t).mp z)]
def sp_stuffed (K : PySem.W.Frag) (C B : Addr) : Sp := fun vs H Q E => ∃ v u : V, vs = [v, u] ∧ ((∃ (A : List Bool) (z : Bool), v = .str (bS (A ++ [z])) ∧ 1 ≤ A.length ∧ A.length ≤ 15 ∧ Keep A z ∧
    ((∃ bs : List Bool, u = .str (bS bs) ∧ bs.length ≤ 10000 ∧ ∀ H', Same H H' → Q (.str (bS (stuff A z bs))) H') ∨ ((∀ H', Same H H' → BitsV K H' u false) ∧ ∀ H' d, Same H H' → H' d = none → E (.ref B) (some d) (upd H' d (.xd [("value", u)]))))) ∨
  (BadM K H v ∧ ∀ H' d, Same H H' → H' d = none → E (.ref C) (some d) (upd H' d (.xd [("value", v)]))))
/-- what stands behind: the row, or none -/
def optV : Option (List Bool) → V
  | some x => .str (bS x)
  | none => .non
theorem baG_nil (A : List Bool) (z : Bool) (t o : List Bool) : baG A z t o [] = if A <:+ t then none else some o := rfl
theorem baG_cons (A : List Bool) (z : Bool) (t o : List Bool) (b : Bool) (r : List Bool) : baG A z t o (b :: r) = if A <:+ t then (if b = !z then baG A z (t ++ [b]) o r else none) else baG A z (t ++ [b]) (o ++ [b]) r := rfl
def sp_bared : Sp := fun vs H Q _ => ∃ (A : List Bool) (z : Bool) (bs : List Bool), vs = [.str (bS (A ++ [z])), .str (bS bs)] ∧ 1 ≤ A.length ∧ A.length ≤ 15 ∧ bs.length ≤ 10000 ∧ ∀ H', Same H H' → Q (optV (bareO A z bs)) H'
def sp_bare (K : PySem.W.Frag) (C B : Addr) : Sp := fun vs H Q E => ∃ v u : V, vs = [v, u] ∧ ((∃ (A : List Bool) (z : Bool), v = .str (bS (A ++ [z])) ∧ 1 ≤ A.length ∧ A.length ≤ 15 ∧ Keep A z ∧
    ((∃ bs : List Bool, u = .str (bS bs) ∧ bs.length ≤ 10000 ∧ (∀ x, bareO A z bs = some x → ∀ H', Same H H' → Q (.str (bS x)) H') ∧ (bareO A z bs = none → ∀ H' d, Same H H' → H' d = none → E (.ref B) (some d) (upd H' d (.xd [("value", u)])))) ∨
      ((∀ H', Same H H' → BitsV K H' u false) ∧ ∀ H' d, Same H H' → H' d = none → E (.ref B) (some d) (upd H' d (.xd [("value", u)]))))) ∨
  (BadM K H v ∧ ∀ H' d, Same H H' → H' d = none → E (.ref C) (some d) (upd H' d (.xd [("value", v)]))))
def sp_growth (K : PySem.W.Frag) (C B : Addr) : Sp := fun vs H Q E => ∃ v u : V, vs = [v, u] ∧ ((∃ (A : List Bool) (z : Bool), v = .str (bS (A ++ [z])) ∧ 1 ≤ A.length ∧ A.length ≤ 15 ∧ Keep A z ∧
    ((∃ bs : List Bool, u = .str (bS bs) ∧ bs.length ≤ 10000 ∧ ∀ H', Same H H' → Q (.int (((stuff A z bs).length : Int) - (bs.length : Int))) H') ∨ ((∀ H', Same H H' → BitsV K H' u false) ∧ ∀ H' d, Same H H' → H' d = none → E (.ref B) (some d) (upd H' d (.xd [("value", u)]))))) ∨
  (BadM K H v ∧ ∀ H' d, Same H H' → H' d = none → E (.ref C) (some d) (upd H' d (.xd [("value", v)]))))
end
end My

namespace My
open PySem PySem.Spec PyProof.Rows L2 Pre
/-! ### texts of bits in texts of bits -/
theorem map_sgn {a b : List Bool} (h : a.map sgn = b.map sgn) : a = b := (List.map_inj_right fun x y e => sgn_inj e).mp h
theorem sub_bS (w a : List Bool) (i : Nat) : Builtin.Str.subAt (bS w) (bS a) i = decide ((w.drop i).take a.length = a) := by
  rw [StrLaws.subAt_eq, bS_list, bS_list, bS_len, ← List.map_drop, ← List.map_take]
  by_cases h : (w.drop i).take a.length = a
  · rw [h, decide_eq_true rfl]
    exact beq_self_eq_true _
  · rw [decide_eq_false h]
    exact beq_eq_false_iff_ne.mpr fun e => h (map_sgn e)
theorem in_bS (w a : List Bool) : (!(Builtin.Str.occurrences (bS w) (bS a) 0 (bS w).length 1).isEmpty) = decide (a <:+: w) := by
  have h := StrLaws.found_iff (bS w) (bS a)
  by_cases hi : a <:+: w
  · rw [decide_eq_true hi]
    refine h.mpr ?_
    obtain ⟨u, v, e⟩ := hi
    refine ⟨u.length, ?_, ?_⟩
    · rw [bS_len, bS_len, ← e, List.length_append, List.length_append]
      omega
    · rw [sub_bS]
      refine decide_eq_true ?_
      rw [← e, List.append_assoc, List.drop_left, List.take_left]
  · rw [decide_eq_false hi]
    rw [Bool.eq_false_iff]
    intro z
    obtain ⟨i, h1, h2⟩ := h.mp z
    rw [sub_bS] at h2
    refine hi ⟨w.take i, (w.drop i).drop a.length, ?_⟩
    have := of_decide_eq_true h2
    conv => lhs; rw [← this]
    rw [this, List.append_assoc]
    conv => rhs; rw [← List.take_append_drop i w, ← List.take_append_drop a.length (w.drop i), this]
theorem ends_bS (w a : List Bool) : Txt.endswith (bS w) (bS a) = decide (a <:+ w) := by
  show (decide (0 + (bS a).length ≤ (bS w).length) && Builtin.Str.subAt (bS w) (bS a) ((bS w).length - (bS a).length)) = _
  rw [sub_bS, bS_len, bS_len]
  by_cases h : a <:+ w
  · rw [decide_eq_true h]
    obtain ⟨u, e⟩ := h
    rw [decide_eq_true (show 0 + a.length ≤ w.length by rw [← e, List.length_append]; omega), Bool.true_and]
    refine decide_eq_true ?_
    rw [← e, List.length_append, show u.length + a.length - a.length = u.length by omega, List.drop_left, List.take_length]
  · rw [decide_eq_false h]
    by_cases hl : 0 + a.length ≤ w.length
    · rw [decide_eq_true hl]
      refine decide_eq_false fun e => h ⟨w.take (w.length - a.length), ?_⟩
      have : (w.drop (w.length - a.length)).take a.length = w.drop (w.length - a.length) := List.take_of_length_le (by rw [List.length_drop]; omega)
      rw [this] at e
      conv => lhs; rw [← e]
      rw [List.length_drop, show w.length - (w.length - (w.length - a.length)) = w.length - a.length by omega]
      exact List.take_append_drop _ _
    · rw [decide_eq_false hl]
      rfl
theorem starts_bS (w a : List Bool) : Txt.startswith (bS w) (bS a) = decide (a <+: w) := by
  show (decide (0 + (bS a).length ≤ (bS w).length) && Builtin.Str.subAt (bS w) (bS a) 0) = _
  rw [sub_bS, bS_len, bS_len, List.drop_zero]
  by_cases h : a <+: w
  · rw [decide_eq_true h]
    obtain ⟨u, e⟩ := h
    rw [decide_eq_true (show 0 + a.length ≤ w.length by rw [← e, List.length_append]; omega), Bool.true_and]
    refine decide_eq_true ?_
    rw [← e, List.take_left]
  · rw [decide_eq_false h]
    by_cases hl : 0 + a.length ≤ w.length
    · rw [decide_eq_true hl]
      refine decide_eq_false fun e => h ⟨w.drop a.length, ?_⟩
      conv => lhs; rw [← e]
      rw [e]
      conv => rhs; rw [← List.take_append_drop a.length w, e]
    · rw [decide_eq_false hl]
      rfl
theorem reps_bS (x : List Bool) (k : Nat) : Txt.mul (bS x) (k : Int) = bS (List.replicate k x).flatten := by
  have key : ∀ (k : Nat) (acc : List Bool), (List.replicate k (bS x).cps).foldl (· ++ ·) (bS acc).cps = (bS (acc ++ (List.replicate k x).flatten)).cps := by
    intro k
    induction k with
    | zero => intro acc; simp
    | succ k ih =>
      intro acc
      rw [List.replicate_succ, List.foldl_cons, List.replicate_succ, List.flatten_cons, ← List.append_assoc]
      have : (bS acc).cps ++ (bS x).cps = (bS (acc ++ x)).cps := congrArg Str.cps (bS_app acc x)
      rw [this]
      exact ih _
  unfold Txt.mul
  by_cases h0 : (k : Int) < 1
  · rw [if_pos h0, show k = 0 by omega]
    rfl
  · rw [if_neg h0]
    by_cases h1 : (((k : Int) == 1) || (bS x).length == 0) = true
    · rw [if_pos h1]
      rw [Bool.or_eq_true, beq_iff_eq, beq_iff_eq, bS_len] at h1
      rcases h1 with h1 | h1
      · rw [show k = 1 by omega]
        simp
      · rw [List.length_eq_zero_iff.mp h1]
        congr 1
        clear h0 h1 key
        induction k with
        | zero => rfl
        | succ k ih => rw [List.replicate_succ, List.flatten_cons, ← ih]; rfl
    · rw [if_neg h1, Int.toNat_natCast]
      have := key k []
      rw [List.nil_append] at this
      exact congrArg Str.mk this
end My

namespace My
open PySem PySem.Spec PyProof.Rows L2 Pre
/-! ### promises for callers that stand in no repr: within them repr of lists shows its items -/
structure FnG (P : Program) (w : World) (K : PySem.W.Frag) (mg : Str → Option Value) (base : Heap) (CX : CXT) (k : Nat) (f : Addr) (fd : FuncData) (ps : List Str) (sp : Sp) : Prop where
  many : ∀ xs H Q E, sp xs H Q E → xs.length = ps.length
  does : ∀ (A : Around), A.guards = some [] → Room k A → ∀ (fr : List Env) (t : Shared) (H : Hp), Env0 P w K mg base A fr t H → ∀ (ar : Args) (us : List Value) (xs : List V), BindsTo t fd ar (ps.zip us) → Vals xs us →
    ∀ (Q : VK) (E : XK), sp xs H Q E → codeAny (model P w) A (.call (.ref f) ar) (CR CX fr P w H t Q E) t
section
variable {P : Program} {w : World} {K : PySem.W.Frag} {mg : Str → Option Value} {base : Heap} {CX : CXT} {k : Nat} {f : Addr} {fd : FuncData} {ps : List Str} {sp : Sp}
theorem FnG.of (F : FnOk P w K mg base CX k f fd ps sp) : FnG P w K mg base CX k f fd ps sp :=
  ⟨F.len, fun A _ hr fr t H e ar us xs b v Q E h => F.run A fr t H ar us xs Q E hr e b v h⟩
/-- a body makes a promise -/
theorem FnG.body {x qual : Str} {pr : Arguments} {bd : List Stmt} {sc : Scope} {dvs : List V} {kws : List (Str × V)} {N : List Str} (F : FunD K x qual pr bd sc dvs kws f fd) (S : FnScope N ps sc) (hm : ∀ xs H Q E, sp xs H Q E → xs.length = ps.length)
    (go : ∀ (cv : Value) (A : Around) (fr : List Env) (t : Shared) (H : Hp) (xs : List V) (Q : VK) (E : XK), A.guards = some [] → Room k (A.deeper (envOfC qual sc t.heap.objs.size f cv)) → sp xs H Q E →
      ∃ τ, PSs (cxOf CX P w K mg base N qual sc f cv A fr t H E) bd τ ∧ τ { nx := fun _ H1 => Q .non H1, rt := Q } (start N xs) H) : FnG P w K mg base CX (k + 1) f fd ps sp := by
  obtain ⟨c0, d0, dv, kv, dc, pm, an, cv, ct, sl, rfl, lk, hcode, _, _⟩ := F.ex
  refine ⟨hm, fun A gd hr fr t H e0 ar us xs hb rv Q E hs => ?_⟩
  have hin : K.In t.heap := e0.mod.kin.keeps fun b o z => (e0.bs b o z).1
  have hno : t.heap.NoLimit := e0.mod.nolimit.keeps fun b o z => (e0.bs b o z).1
  refine codeAny_call_function hr.depth (hin _ _ lk) rfl S.co S.gen rfl (PySem.W.codeRec_of hin hcode) (hb _ _ _ _ ?_)
  refine wpAny_newFunctionEnv_cells S.kind (fun y hy => ?_) fun env he t1 hx => ?_
  · obtain ⟨n, u⟩ := y
    rcases S.par n (List.of_mem_zip hy).1 with z | z
    · exact Or.inl z
    · exact Or.inr ⟨z, PySem.W.cellsFrom_some _ _ _ (Or.inl z)⟩
  · subst he
    refine ⟨hno.keeps hx.toInCall.keep, codeAny_func ?_⟩
    obtain ⟨τ, hτ, hq⟩ := go cv A fr t H xs Q E gd (hr.deeper _) hs
    have J := inv_start (CX := CX) (E := E) S hr.hd e0 (hm _ _ _ _ hs) rv hx
    refine wpAny_mono (hτ.run [] t1 (start N xs) H _ J hq) (fun fl t2 h2 => ?_) fun _ _ z => z
    cases fl with
    | brk => exact False.elim h2.choose_spec.choose_spec.2
    | cont => exact False.elim h2.choose_spec.choose_spec.2
    | next =>
      obtain ⟨σ2, H2, J2, q2⟩ := h2
      exact ⟨V.non, H2, J2.os, J2.bare, J2.base, J2.hok, rfl, q2⟩
    | ret u =>
      obtain ⟨v2, σ2, H2, J2, r2, q2⟩ := h2
      exact ⟨v2, H2, J2.os, J2.bare, J2.base, J2.hok, r2, q2⟩
end
section
variable {X : Cx} {CX : CXT} {k : Nat} {f : Addr} {fd : FuncData} {ps : List Str} {sp : Sp} {dvs : List V} {ds : List Value} {E : XK} {x : Str} {p pos : Pos} {e : Expr} {es : List Expr} {t : TA}
theorem go_g {pins : List (Addr × Obj)} {σ : L2.St} {H : Hp} {s : Shared} {Q : VK} {us : List Value} {xs : List V} (F : FnG X.prog X.w X.K X.mg X.base CX k f fd ps sp) (gd : X.A.guards = some []) (hr : Room k X.A) (hb : Binds X.K fd ps ds) (hd : Vals dvs ds)
    (hx : Passes CX X E) (I : Inv X pins σ H s) (r : Vals xs us) (h : sp (xs ++ dvs) H Q E) : wpAny (model X.prog X.w) X.A (call (.ref f) us) (EP X pins σ Q) X.xe s := by
  have rr := Vals.append r hd
  refine wpAny_call (codeAny_mono (F.does X.A gd hr X.stack s H I.env0 ⟨us, []⟩ (us ++ ds) (xs ++ dvs) (hb s us I.kIn (by rw [← rr.length]; exact F.many _ _ _ _ h)) rr Q E h) fun z s2 hz => ?_)
  match z, hz with
  | .error e, hz => exact hx pins σ H s e s2 I hz
  | .ok (.ret u), hz => exact I.after hz
theorem pe_callG (F : FnG X.prog X.w X.K X.mg X.base CX k f fd ps sp) (gd : X.A.guards = some []) (hr : Room k X.A) (hg : Gl X x) (hm : X.mg x = some (.ref f)) (hk : PySem.W.keepIn X.K (.ref f) = true) (hb : Binds X.K fd ps ds) (hd : Vals dvs ds) (hx : Passes CX X E)
    (ha : PA X (e :: es) t) (hdb : (x == ("__debug__" : Str)) = false := by decide) (he : starEach (e :: es) X.env = (false, eval e X.env) :: starEach es X.env := by rfl) (hpl : (backTo pos (starEach es X.env)).any (·.1) = false := by rfl) :
    PE X (.Call (.Name x p) (e :: es) [] pos) (tCall sp dvs E t) :=
  ⟨fun pins s σ H Q I h => wpAny_Call_Name_kw (ld_glob I hg hm (PySem.W.callWith_K (h₀ := X.base) I.ok.mod.kin hk (thn (ha.run pos pins s σ H _ I h) fun us s1 ⟨vs, H1, J, r, q⟩ => ⟨J.kIn, go_g F gd hr hb hd hx J r q⟩) he hpl) hdb)⟩
theorem pe_callG0 (F : FnG X.prog X.w X.K X.mg X.base CX k f fd ps sp) (gd : X.A.guards = some []) (hr : Room k X.A) (hg : Gl X x) (hm : X.mg x = some (.ref f)) (hk : PySem.W.keepIn X.K (.ref f) = true) (hb : Binds X.K fd ps ds) (hd : Vals dvs ds) (hx : Passes CX X E)
    (hdb : (x == ("__debug__" : Str)) = false := by decide) : PE X (.Call (.Name x p) [] [] pos) (tCall sp dvs E tNil) :=
  ⟨fun pins s σ H Q I h => wpAny_Call_Name_kw (ld_glob I hg hm (PySem.W.callWith_K0 I.kIn hk (go_g (us := []) F gd hr hb hd hx I .nil h)) hdb)⟩
end
/-! ### repr -/
def rRepr (K : PySem.W.Frag) : List V → Hp → VK → Prop := fun xs H Q => ∃ (x : V) (d : PyData), xs = [x] ∧ Dp K H x d ∧ d.showable = true ∧ SeqAt.shaped d = true ∧ d.shown.length ≤ sizeLine ∧ Q (.str d.shown) H
theorem call_repr {X : Cx} (gd : X.A.guards = some []) (hu : X.A.units + 65 < cLine) : CallR X (.builtin "repr") (rRepr X.K) := by
  intro pins s σ H xs us Q I r h
  obtain ⟨x, d, rfl, hd, hs, hsh, hl, q⟩ := h
  cases r with
  | cons rx rr =>
    cases rr
    rename_i u
    have hlay : d.canLay0 = true := SeqAt.canLay_of_shaped hsh
    have hdep : d.depth ≤ 64 := by
      have z : (d.canLay0 && decide (d.depth ≤ 64)) = true := hsh
      exact of_decide_eq_true (Bool.and_eq_true_iff.mp z).2
    obtain ⟨as, rd⟩ := Dp.reads I d x u hd rx
    have fin : ∀ h' v tk, (∀ b o, s.heap.get? b = some o → h'.get? b = some o) → EP X pins σ Q (.str d.shown v) { s with heap := h', toks := tk } := fun h' v tk hk => ⟨.str d.shown, H, I.kept hk, ⟨v, rfl⟩, q⟩
    cases hd with
    | non => cases rx; exact PySem.P.repr_of_none (fin _ _ _ fun _ _ z => z)
    | bl b => cases rx; exact PySem.P.repr_of_bool (fin _ _ _ fun _ _ z => z)
    | int i => obtain ⟨t, rfl⟩ := rx; exact PySem.P.repr_of_int (of_decide_eq_true hs) (fin _ _ _ fun _ _ z => z)
    | str y => obtain ⟨t, rfl⟩ := rx; exact PySem.P.repr_of_str (fin _ _ _ fun _ _ z => z) hl
    | lst _ _ => cases rx; exact repr_of_reads' rd hs (PyData.noDict_hsm (PyData.hasDict_of_canLay _ hlay)) gd (by omega) (fun _ _ z => z) fin hl
    | tup _ _ => cases rx; exact repr_of_reads' rd hs (PyData.noDict_hsm (PyData.hasDict_of_canLay _ hlay)) gd (by omega) (fun _ _ z => z) fin hl
theorem k_repr {X : Cx} (K : PySem.W.Frag) (h : X.K = K) (gd : X.A.guards = some []) (hu : X.A.units + 65 < cLine) : CallR X (.builtin "repr") (rRepr K) := by subst h; exact call_repr gd hu
theorem hu65 {k : Nat} {A : Around} (r : Room k A) : A.units + 65 < cLine := by have := r.un; omega
/-- rows of whole numbers, shown -/
theorem dp_ints {K : PySem.W.Frag} {H : Hp} : ∀ ns : List Int, DpAll K H (ns.map V.int) (ns.map PyData.int)
  | [] => .nil
  | n :: ns => .cons (.int n) (dp_ints ns)
theorem dp_row {K : PySem.W.Frag} {H : Hp} {a : Addr} {ns : List Int} (h : SqL K H a (ns.map V.int)) : Dp K H (.ref a) (.list (ns.map PyData.int)) := .lst h (dp_ints ns)
def shownR (ns : List Int) : Str := PyData.shown (.list (ns.map PyData.int))
theorem ints_lay : ∀ ns : List Int, PyData.canLayAll0 (ns.map PyData.int) = true
  | [] => rfl
  | n :: ns => by simp [PyData.canLayAll0, PyData.canLay0, ints_lay ns]
theorem ints_depth : ∀ ns : List Int, PyData.depthAll (ns.map PyData.int) ≤ 1
  | [] => by simp [PyData.depthAll]
  | n :: ns => by
    have := ints_depth ns
    simp only [List.map_cons, PyData.depthAll, PyData.depth]
    omega
theorem row_shaped (ns : List Int) : SeqAt.shaped (.list (ns.map PyData.int)) = true := by
  have h := ints_depth ns
  show (PyData.canLay0 (.list (ns.map PyData.int)) && decide (PyData.depth (.list (ns.map PyData.int)) ≤ 64)) = true
  rw [Bool.and_eq_true]
  exact ⟨by simp only [PyData.canLay0]; exact ints_lay ns, decide_eq_true (by simp only [PyData.depth]; omega)⟩
theorem ints_show : ∀ ns : List Int, (∀ n ∈ ns, n.natAbs.log2 < 1920) → PyData.showableAll (ns.map PyData.int) = true
  | [], _ => rfl
  | n :: ns, h => by
    simp only [List.map_cons, PyData.showableAll, PyData.showable]
    rw [decide_eq_true (h n List.mem_cons_self), ints_show ns fun m hm => h m (List.mem_cons_of_mem _ hm)]
    rfl
/-! ### sorted, any number -/
theorem k_sortedI {X : Cx} (K : PySem.W.Frag) (h : X.K = K) : CallR X (.builtin "sorted") (rSortedI K) := by subst h; exact cr_sortedI
def rSortedA (K : PySem.W.Frag) : List V → Hp → VK → Prop := fun vs H Q => ∃ (a : Addr) (xs : List Str), vs = [V.ref a] ∧ SqL K H a (xs.map V.str) ∧ ∀ (ys : List Str) (p : Addr), ys.Perm xs → sortedS ys = true → H p = none → Q (.ref p) (upd H p (.lst (ys.map V.str)))
theorem k_sortedS {X : Cx} (K : PySem.W.Frag) (h : X.K = K) : CallR X (.builtin "sorted") (rSortedA K) := by
  subst h
  intro pins s σ H vs us Q I r h
  obtain ⟨a, xs, rfl, hs, q⟩ := h
  obtain ⟨its, rv, hl, hz⟩ := I.list hs
  rw [Vals.ref1 r]
  refine sorted_strsAny hl.isList rv.strs (by rw [← rv.length]; exact hz) fun out ys h1 h2 h3 => ?_
  obtain ⟨ep, at_⟩ := sortedAll_at s.heap its out
  refine ⟨.ref _, upd H (s.heap.objs.size + 1) (.lst (ys.map V.str)), I.laid (t' := s.toks) (fun _ _ => sortedAll_old) (Nat.le_succ _) ⟨?_, out.toList, ep, vals_of_strs h1, at_⟩, rfl, q ys _ h2 h3 (I.hok.fresh (Nat.le_succ _))⟩
  rw [List.length_map, h2.length_eq]
  rw [List.length_map] at hz
  exact hz
theorem sorted_le : ∀ (l : List Str) (p : Str), risingS p l = true → (p :: l).Pairwise fun x y => x.cps.toList ≤ y.cps.toList
  | [], p, _ => List.pairwise_singleton _ _
  | x :: r, p, h => by
    obtain ⟨h1, h2⟩ := Bool.and_eq_true_iff.mp (show (!ltCps x.cps.toList p.cps.toList && risingS x r) = true from h)
    have hpx : p.cps.toList ≤ x.cps.toList := by
      rw [ltCps_eq] at h1
      intro z
      rw [decide_eq_true z] at h1
      cases h1
    have ih := sorted_le r x h2
    refine List.pairwise_cons.mpr ⟨fun y hy => ?_, ih⟩
    rcases List.mem_cons.mp hy with rfl | hy
    · exact hpx
    · exact List.le_trans hpx ((List.pairwise_cons.mp ih).1 y hy)
theorem sorted_uniq {xs ys : List Str} (h : xs.Perm ys) (hx : sortedS xs = true) (hy : sortedS ys = true) : xs = ys := by
  have pw : ∀ l : List Str, sortedS l = true → l.Pairwise fun x y => x.cps.toList ≤ y.cps.toList := fun l hl => by
    cases l with
    | nil => exact .nil
    | cons x r => exact sorted_le r x hl
  refine List.Perm.eq_of_pairwise (fun x y _ _ h1 h2 => ?_) (pw _ hx) (pw _ hy) h
  have e := List.le_antisymm h1 h2
  cases x with | mk a => cases y with | mk b => exact congrArg Str.mk (Array.toList_inj.mp e)
end My

namespace My
open PySem PySem.Spec PyProof.Rows L2 Pre
/-! ### the end of a law whose promise stands in no repr -/
/-- the script, tracked or one of the module's own objects -/
theorem script_env {P : Program} {w : World} {K : PySem.W.Frag} {mg mb : Str → Option Value} {a : Addr} {t : Shared} {us : List Value} {ns : List Int} (hin : K.In t.heap) (hgl : t.heap.Ns mainGlobals mg) (hbl : t.heap.Ns builtinsNs mb)
    (hbo : ∀ x : Str, x ≠ "__name__" → mb x = bootBuiltins x) (hno : t.heap.NoLimit) (hgs : t.gens = #[]) (at_a : t.heap.get? a = some { cls := .type "list", data := .seq us.toArray }) (ints_ : IntsAre us ns) (few : ns.length ≤ sizeLine) :
    ∃ (H : Hp) (base : Heap), Only H ∧ SqL K H a (ns.map V.int) ∧ K.In base ∧ base.Ns mainGlobals mg ∧ Env0 P w K mg base callerA [] t H := by
  have rv := vals_ints ints_
  have ul := ints_.length
  -- the module and the rest of the heap, whatever is tracked at a alone
  have rest : ∀ H : Hp, Only H → (∀ b, b ≠ a → H b = none) → (H a = none ∨ K.lookup a = none) → HOk P w H t.heap → SqL K H a (ns.map V.int) → ∃ (H : Hp) (base : Heap), Only H ∧ SqL K H a (ns.map V.int) ∧ K.In base ∧ base.Ns mainGlobals mg ∧ Env0 P w K mg base callerA [] t H := by
    intro H h1 h2 h3 h4 h5
    have dictFree : ∀ b o, t.heap.get? b = some o → (∃ es n, o.data = Data.dict es n) → H b = none := fun b o z ⟨es, n, d⟩ => by
      by_cases hb : b = a
      · rw [hb, at_a] at z
        cases z
        cases d
      · exact h2 b hb
    have nsKept : ∀ (b : Addr) (m : Str → Option Value), t.heap.Ns b m → (hidT t.heap H).Ns b m := fun b m z => by
      obtain ⟨o, es, ep, z1, z2, z3⟩ := z
      exact ⟨o, es, ep, hidT_get z1 (dictFree b o z1 ⟨_, _, z2⟩), z2, z3⟩
    have inKept : K.In (hidT t.heap H) := fun b o z => hidT_get (hin b o z) (by
      by_cases hb : b = a
      · rcases h3 with z3 | z3
        · rw [hb]; exact z3
        · rw [hb, z3] at z; cases z
      · exact h2 b hb)
    obtain ⟨mc, l1, l2⟩ := hno
    refine ⟨H, hidT t.heap H, h1, h5, inKept, nsKept _ _ hgl, ⟨rfl, ⟨inKept, nsKept _ _ hgl, ⟨mb, nsKept _ _ hbl, hbo⟩, ⟨mc, nsKept _ _ l1, l2⟩⟩, fun b o z => of_hidT z, ?_, trivial, fun b z => (nomatch z), h4, .of_eq hgs⟩⟩
    rw [hidT_size]
    exact Nat.le_refl _
  cases hk : K.lookup a with
  | some o =>
    have z := hin a o hk
    rw [at_a] at z
    cases z
    exact rest (fun _ => none) (fun _ => .inl rfl) (fun _ _ => rfl) (.inl rfl) (fun _ _ z => nomatch z) (.inr ⟨_, us.toArray, _, hk, rfl, rfl, rfl, by rw [List.size_toArray, ul]; exact few, by simpa using rv⟩)
  | none =>
    refine rest (upd (fun _ => none) a (.frz { cls := .type "list", data := .seq us.toArray } (.lst (ns.map V.int)))) (fun b => ?_) (fun b hb => upd_ne hb) (.inr hk) (fun b u z => ?_) (.inl (.inr ⟨_, upd_same⟩))
    · by_cases hb : b = a
      · rw [hb]; exact .inr ⟨_, _, upd_same⟩
      · exact .inl (upd_ne hb)
    · by_cases hb : b = a
      · subst hb
        rw [upd_same] at z
        cases z
        exact ⟨at_a, by rw [List.length_map]; exact few, us, _, rv, at_a⟩
      · rw [upd_ne hb] at z
        cases z
theorem end_g {l : PySem.W.OpenLaw} {n k : Nat} {q : Program} {loose : List Str} {XP : (Str → Option Value) → Heap → Prop} {YP : World → Heap → Prop} {d : DefRec} {x : Str} (hn : l.most = some n) (hn2 : n ≤ sizeLine) (hdf : d.params.defaults = []) (hr : Room k callerA)
    (F : ∀ (w : World) (mg : Str → Option Value) (fa : Addr) (h : Heap), YP w h → h.Ns mainGlobals mg → mg d.name = some (.ref fa) →
      ∃ (K : PySem.W.Frag) (fd : FuncData) (sp : Sp), K.In h ∧ (∀ (s : Shared) (u : Value), BindsTo s fd ⟨[u], []⟩ [(x, u)]) ∧
        (∀ (H : Hp) (a : Addr) (ns : List Int), ns.length ≤ n → SqL K H a (ns.map V.int) → sp [.ref a] H (fun v _ => v = .bl true) fun _ _ _ => False) ∧
        ∀ base : Heap, K.In base → base.Ns mainGlobals mg → FnG l.prog w K mg base CX0 k fa fd [x] sp) :
    PySem.W.WalkO q loose XP YP l.row.toRowW d [] (fun f vs => PySem.call f vs) := by
  refine Att.attach_call hn hdf fun w s₀ t mg mb fa o pm cd doc a us ns G Y ho hd hcd hmg at_a hi hl hg => ?_
  obtain ⟨K, fd, sp, hin, hb, hsp, hF⟩ := F w mg fa _ Y G.T.g hmg
  obtain ⟨H, base, only, hS, hKb, hgb, e0⟩ := script_env (P := l.prog) (w := w) hin G.T.g G.T.b G.T.builtins G.T.nolimit hg at_a hi (Nat.le_trans hl hn2)
  refine codeAny_mono ((hF base hKb hgb).does callerA rfl hr [] t H e0 ⟨[.ref a], []⟩ [.ref a] [.ref a] (hb t (.ref a)) (.cons rfl .nil) _ _ (hsp H a ns hl hS)) fun r t2 h => ?_
  match r, h with
  | .error e, h => exact (show False from h).elim
  | .ok (.ret u), h =>
    obtain ⟨v, H2, os, bare, un, hok2, rv, qv⟩ := h
    have qv : v = .bl true := qv
    subst qv
    have rv : u = Value.bool true := rv
    subst rv
    refine ⟨rfl, OldK.of_keep fun b o z => ?_, os, bare⟩
    rcases only b with hb | ⟨ob, ys, hb⟩
    · exact un.keep b o z hb (fun y => nomatch y) (fun y => nomatch y)
    · have z1 : t.heap.get? b = some ob := (e0.hok b _ hb).1
      have z2 : t2.heap.get? b = some ob := (hok2 b _ (un.frzs b ob _ hb)).1
      rw [z] at z1
      cases z1
      exact z2
end My

namespace My
open PySem PySem.Spec PyProof.Rows L2 Pre
/-! ### repr of an empty dict, too -/
def rReprX (K : PySem.W.Frag) : List V → Hp → VK → Prop := fun xs H Q => rRepr K xs H Q ∨ ∃ a : Addr, xs = [.ref a] ∧ H a = some (.dK []) ∧ Q (.str (PyData.dict []).shown) H
theorem call_reprX {X : Cx} (gd : X.A.guards = some []) (hu : X.A.units + 65 < cLine) : CallR X (.builtin "repr") (rReprX X.K) := by
  intro pins s σ H xs us Q I r h
  rcases h with h | ⟨a, rfl, ha, q⟩
  · exact call_repr gd hu pins s σ H xs us Q I r h
  · cases r with
    | cons rx rr =>
      cases rr
      cases rx
      have hx := I.hok a _ ha
      obtain ⟨t1, t2, vs, rel, o, es, ep, ho, h2, h3, h4⟩ := hx
      obtain rfl : vs = [] := by cases rel; rfl
      have he : es.toList = [] := by
        have h5 := h4.2.1
        cases hl : es.toList with
        | nil => rfl
        | cons e r => rw [hl] at h5; cases h5
      have rd : Reads s.heap (.ref a) (.dict []) [a] := .dict (as := []) (bs := []) ho h2.1 h3 (by rw [he]; exact .nil) (by rw [he]; exact .nil)
      have hd : (PyData.dict []).depth ≤ 64 := by decide +kernel
      have fin : ∀ h' v tk, (∀ b o, s.heap.get? b = some o → h'.get? b = some o) → EP X pins σ Q (.str (PyData.dict []).shown v) { s with heap := h', toks := tk } := fun h' v tk hk => ⟨.str (PyData.dict []).shown, H, I.kept hk, ⟨v, rfl⟩, q⟩
      exact repr_of_reads' rd rfl (fun _ m => by
        rw [List.mem_singleton] at m
        rw [← m] at t2
        simp at t2) gd (by omega) (fun _ _ z => z) fin (by decide +kernel)
theorem k_reprX {X : Cx} (K : PySem.W.Frag) (h : X.K = K) (gd : X.A.guards = some []) (hu : X.A.units + 65 < cLine) : CallR X (.builtin "repr") (rReprX K) := by subst h; exact call_reprX gd hu
end My

namespace My
open PySem PySem.Spec PyProof.Rows PySem.W L2 Pre
/-- products of one small number, or of two that are not too great -/
def CMulA (i j : Int) : Prop := CMul i j ∨ CMulX i j
theorem op_mulA {X : Cx} : OpR X (binaryOp .Mult) (rI CMulA fun i j => .int (i * j)) := fun pins s σ H x y v u Q I r1 r2 h => by
  obtain ⟨i, j, ex, ey, hc, q⟩ := h
  rcases hc with hc | hc
  · exact op_mul pins s σ H x y v u Q I r1 r2 ⟨i, j, ex, ey, hc, q⟩
  · exact op_mulX pins s σ H x y v u Q I r1 r2 ⟨i, j, ex, ey, hc, q⟩
end My

namespace My
open PySem PySem.Spec PyProof.Rows L2 Pre
/-! ### numbers drawn from one or two great ones -/
def PumpAt (H : Hp) (g : Addr) : Prop := ∃ ns : List Int, H g = some (.lst (ns.map V.int)) ∧ (ns.length = 1 ∨ ns.length = 2)
theorem PumpAt.same {H H' : Hp} {g : Addr} (h : PumpAt H g) (s : Same H H') : PumpAt H' g := by
  obtain ⟨ns, a, b⟩ := h
  exact ⟨ns, s _ _ a, b⟩
theorem PumpAt.ne {H : Hp} {g p : Addr} (h : PumpAt H g) (np : H p = none) : p ≠ g := by
  obtain ⟨ns, a, _⟩ := h
  exact (ne_of_none a np).symm
theorem at0 {α : Type} (x : α) (r : List α) : atI (x :: r) 0 = some x := atI_nat (xs := x :: r) (j := 0) rfl
theorem ix0 (n : Nat) : ixN (n + 1) 0 = some 0 := by unfold ixN; rw [if_pos (by decide), if_pos (by omega)]; rfl
theorem div9 {m : Int} (h0 : 0 < m) (h1 : m ≤ 10 ^ 18) : m.natAbs.log2 < 9000 := by
  have : m.natAbs < 2 ^ 60 := by omega
  exact Nat.lt_of_lt_of_le (PySem.Flt.log2_lt_of (by decide) this) (by decide)
theorem cmulx_dec {i j : Int} (h : (Builtin.Int.intBits i : Int) + (Builtin.Int.intBits j : Int) ≤ 134217728) : CMulA i j := .inr h
local macro_rules | `(tactic| walk_at "go") => `(tactic| repeat (first | (with_reducible first | refine iteT ?_ | refine iteF ?_ | refine iteNtt ?_ | refine iteNff ?_ | refine iteET (by omega) ?_ | refine iteEF (by omega) ?_ | refine iteENT (by omega) ?_ | refine iteENF (by omega) ?_ | refine iteDT (by omega) ?_ | refine iteDF (by omega) ?_ | refine iteNT (by omega) ?_ | refine iteNF (by omega) ?_) | refine ⟨_, rfl, ?_⟩ | refine ⟨_, _, rfl, rfl, ?_⟩ | refine ⟨_, _, rfl, ?_⟩ | refine ⟨rfl, ?_⟩ | refine .inl ⟨_, rfl, ?_⟩ | refine .inr ⟨_, rfl, ?_⟩))
local macro_rules | `(tactic| walk_at "b") => `(tactic| try dsimp (config := { proj := false, iota := false, eta := false, zeta := false }) only)
section
variable {P : Program} {w : World} {K : PySem.W.Frag} {mg : Str → Option Value} {base : Heap} [pf : Sup.PF P fileS]
def sp_law_cup : Sp := fun vs H Q _ => ∃ (g : Addr) (m : Int), vs = [.ref g, .int m] ∧ PumpAt H g ∧ 0 < m ∧ m ≤ 10 ^ 18 ∧ ∀ (H' : Hp) (d : Nat), But g H H' → PumpAt H' g → (d : Int) < m → Q (.int d) H'
theorem G_law_cup (T : Top K mg) : FnOk P w K mg base CX0 1 T.f_law_cup T.fd_law_cup ["_law_pump_here", "_law_many"] sp_law_cup := by
  refine T.F_law_cup.ok sc_law_cup (fun vs H Q E h => by obtain ⟨g, m, rfl, _⟩ := h; rfl) (fun cdv A outer s H vs Q E hr h => ?_)
  obtain ⟨g, m, rfl, ⟨ns, hg, hn⟩, h0, h1, q⟩ := h
  refine ⟨_, PSs.nox (pss_cons (ps_if (PW.pt (pw_and (pt_cmpR op_eq (pe_ix (k_ixL K rfl) (pv 0) pe_int (fun _ _ => rfl)) pe_int (nomark _)) (pw_and1 (pt_cmpR op_gt (pe_callB (k_len K rfl) (by rfl) T.n_len (by decide +kernel) (pa_cons (pv 0) pa_nil)) pe_int (nomark _)))))
    (pss_one (ps_asg (pe_bm0 PySem.F.plainAttrs_list PySem.F.slot_list_pop PySem.F.type_list_pop mt_pop (pv 0)) (pg_sub (pv 0) pe_int set_list)))
    pss_nil)
  (pss_cons (ps_set (i := 2) sc_law_cup.nd rfl (by first | exact Or.inl rfl | exact Or.inr rfl) (pe_op op_mod (pe_callTy call_int1 (by rfl) T.n_int (by decide +kernel) (pa_cons (pe_ix (k_ixL K rfl) (pv 0) pe_int (fun _ _ => rfl)) pa_nil)) (pv 1)))
  (pss_cons (ps_asg (pe_op op_fdivW (pe_ix (k_ixL K rfl) (pv 0) pe_int (fun _ _ => rfl)) (pv 1)) (pg_sub (pv 0) pe_int set_list))
  (pss_one (ps_ret (pv 2)))))), ?_⟩
  obtain ⟨x, r, rfl⟩ : ∃ (x : Int) (r : List Int), ns = x :: r := by
    cases ns with
    | nil => rcases hn with h | h <;> cases h
    | cons x r => exact ⟨x, r, rfl⟩
  have key : ∀ {H1 : Hp} {x : Int} {r : List Int}, But g H H1 → H1 g = some (.lst ((x :: r).map V.int)) → ((x :: r).length = 1 ∨ (x :: r).length = 2) → ∀ d : Nat, (d : Int) = x % m → Q (.int d) (upd H1 g (.lst (((x :: r).map V.int).set 0 (V.int (x / m))))) := by
    intro H1 x r b hg1 hn1 d hd
    refine q _ d b.upd ⟨(x / m) :: r, ?_, hn1⟩ ?_
    · rw [upd_same]
      rfl
    · rw [hd]
      exact Int.emod_lt_of_pos x h0
  refine ⟨_, rfl, g, _, _, .int x, rfl, rfl, .inl (.inl hg), at0 _ _, rfl, _, rfl, ?_⟩
  by_cases hx : x = 0
  · subst hx
    refine iteT ?_
    refine ⟨_, rfl, g, _, rfl, .inl (.inl (.inl hg)), _, _, rfl, rfl, _, rfl, ?_⟩
    cases r with
    | nil =>
      refine iteF ?_
      refine ⟨_, rfl, g, _, _, .int 0, rfl, rfl, .inl (.inl hg), at0 _ _, .inl ⟨_, rfl, ?_⟩⟩
      refine ⟨_, rfl, _, _, rfl, rfl, h0, ?_⟩
      refine ⟨_, rfl, g, _, _, .int 0, rfl, rfl, .inl (.inl hg), at0 _ _, _, rfl, _, _, rfl, rfl, ⟨h0, div9 h0 h1⟩, ?_⟩
      refine ⟨_, rfl, g, _, _, 0, rfl, rfl, hg, ix0 _, ?_⟩
      obtain ⟨d, hd⟩ := Int.eq_ofNat_of_zero_le (Int.emod_nonneg 0 (show m ≠ 0 by omega))
      refine ⟨_, rfl, ?_⟩
      dsimp only
      rw [hd]
      exact key (x := 0) (r := []) But.refl hg (.inl rfl) d hd.symm
    | cons y r =>
      obtain rfl : r = [] := by
        rcases hn with h | h
        · simp at h
        · simpa using h
      refine iteT ?_
      refine ⟨_, rfl, .inl ⟨rfl, _, .inl (.inl hg)⟩, g, _, .int y, rfl, rfl, hg, rfl, ?_⟩
      refine ⟨_, rfl, g, _, _, 0, rfl, rfl, upd_same, ix0 _, ?_⟩
      have hg2 : upd (upd H g (.lst (([(0 : Int), y].map V.int).dropLast))) g (.lst ((([(0 : Int), y].map V.int).dropLast).set 0 (.int y))) g = some (.lst ([y].map V.int)) := upd_same
      refine ⟨_, rfl, g, _, _, .int y, rfl, rfl, .inl (.inl hg2), at0 _ _, .inl ⟨_, rfl, ?_⟩⟩
      refine ⟨_, rfl, _, _, rfl, rfl, h0, ?_⟩
      refine ⟨_, rfl, g, _, _, .int y, rfl, rfl, .inl (.inl hg2), at0 _ _, _, rfl, _, _, rfl, rfl, ⟨h0, div9 h0 h1⟩, ?_⟩
      refine ⟨_, rfl, g, _, _, 0, rfl, rfl, hg2, ix0 _, ?_⟩
      obtain ⟨d, hd⟩ := Int.eq_ofNat_of_zero_le (Int.emod_nonneg y (show m ≠ 0 by omega))
      refine ⟨_, rfl, ?_⟩
      dsimp only
      rw [hd]
      exact key (x := y) (r := []) (But.refl.upd.upd) hg2 (.inl rfl) d hd.symm
  · refine iteDF (fun h => hx (V.int.inj h)) ?_
    refine ⟨_, rfl, g, _, _, .int x, rfl, rfl, .inl (.inl hg), at0 _ _, .inl ⟨_, rfl, ?_⟩⟩
    refine ⟨_, rfl, _, _, rfl, rfl, h0, ?_⟩
    refine ⟨_, rfl, g, _, _, .int x, rfl, rfl, .inl (.inl hg), at0 _ _, _, rfl, _, _, rfl, rfl, ⟨h0, div9 h0 h1⟩, ?_⟩
    refine ⟨_, rfl, g, _, _, 0, rfl, rfl, hg, ix0 _, ?_⟩
    obtain ⟨d, hd⟩ := Int.eq_ofNat_of_zero_le (Int.emod_nonneg x (show m ≠ 0 by omega))
    refine ⟨_, rfl, ?_⟩
    dsimp only
    rw [hd]
    exact key (x := x) (r := r) But.refl hg hn d hd.symm
def sp_law_pump (K : PySem.W.Frag) : Sp := fun vs H Q _ => ∃ (a : Addr) (ns : List Int), vs = [.ref a, .int 0] ∧ SqL K H a (ns.map V.int) ∧ ns.length ≤ 63 ∧ ∀ H' g, Same H H' → H g = none → PumpAt H' g → Q (.ref g) H'
theorem G_law_pump (T : Top K mg) : FnOk P w K mg base CX0 1 T.f_law_pump T.fd_law_pump ["_law_script", "_law_at"] (sp_law_pump K) := by
  refine T.F_law_pump.ok sc_law_pump (fun vs H Q E h => by obtain ⟨a, ns, rfl, _⟩ := h; rfl) (fun cdv A outer s H vs Q E hr h => ?_)
  obtain ⟨a, ns, rfl, hS, hz, q⟩ := h
  refine ⟨_, PSs.nox (pss_cons (ps_set (i := 2) sc_law_pump.nd rfl (by first | exact Or.inl rfl | exact Or.inr rfl) (pe_op op_add (pe_op op_add (pe_op op_mulA pe_int (pv 1)) pe_int) (pe_op op_mod (pe_callB (k_sum K rfl rfl) (by rfl) T.n_sum (by decide +kernel) (pa_cons (pe_slice (k_slL K rfl) (pv 0) po_none (po_some pe_int)) pa_nil)) pe_int)))
  (pss_cons (ps_if (pt_cmpR op_lt (pv 1) (pe_callB (k_len K rfl) (by rfl) T.n_len (by decide +kernel) (pa_cons (pv 0) pa_nil)) (nomark _))
    (pss_one (ps_set (i := 2) sc_law_pump.nd rfl (by first | exact Or.inl rfl | exact Or.inr rfl) (pe_ix (k_ixL K rfl) (pv 0) (pv 1) (fun _ _ => rfl))))
    pss_nil)
  (pss_cons (ps_par (by rfl) sc_law_pump.nd (i := 6) (j := 7) rfl rfl (by decide) rfl rfl (pa_cons (pe_op op_mod (pe_callTy call_int1 (by rfl) T.n_int (by decide +kernel) (pa_cons (pe_op op_add (pv 2) (pe_op op_mulA pe_int (pv 1))) pa_nil)) pe_int) (pa_cons (pe_op op_mod (pe_callTy call_int1 (by rfl) T.n_int (by decide +kernel) (pa_cons (pv 2) pa_nil)) pe_int) pa_nil)) (by rfl))
  (pss_cons (ps_set (i := 3) sc_law_pump.nd rfl (by first | exact Or.inl rfl | exact Or.inr rfl) pe_int)
  (pss_cons (ps_for PassesOwn.never rfl (pi_range1 (by rfl) T.n_range (pa_cons pe_int pa_nil)) (pg_name (i := 4) sc_law_pump.nd rfl (by first | exact Or.inl rfl | exact Or.inr rfl))
    (pss_cons (ps_set (i := 6) sc_law_pump.nd rfl (by first | exact Or.inl rfl | exact Or.inr rfl) (pe_op op_mod (pe_callTy call_int1 (by rfl) T.n_int (by decide +kernel) (pa_cons (pe_op op_add (pe_op op_add (pe_op op_add (pe_op op_mulA (pv 6) pe_int) (pe_op op_mulA (pv 4) pe_int)) (pe_op op_mulA pe_int (pv 1))) pe_int) pa_nil)) pe_int))
  (pss_cons (ps_set (i := 7) sc_law_pump.nd rfl (by first | exact Or.inl rfl | exact Or.inr rfl) (pe_op op_mod (pe_callTy call_int1 (by rfl) T.n_int (by decide +kernel) (pa_cons (pe_op op_add (pe_op op_add (pe_op op_mulA (pv 7) (pv 7)) (pe_op op_mulA pe_int (pv 4))) pe_int) pa_nil)) pe_int))
  (pss_one (ps_set (i := 3) sc_law_pump.nd rfl (by first | exact Or.inl rfl | exact Or.inr rfl) (pe_op op_add (pe_op op_mulA (pv 3) pe_int) (pe_op op_mod (pe_callTy call_int1 (by rfl) T.n_int (by decide +kernel) (pa_cons (pe_op op_add (pe_op op_mulA (pv 6) (pv 7)) (pe_op op_mulA pe_int (pv 4))) pa_nil)) pe_int)))))))
  (pss_cons (ps_if (pt_cmpR op_lt (pv 2) (pe_op op_powW pe_int pe_int) (nomark _))
    (pss_one (ps_ret (pe_lst (pa_cons (pv 3) pa_nil))))
    pss_nil)
  (pss_cons (ps_set (i := 5) sc_law_pump.nd rfl (by first | exact Or.inl rfl | exact Or.inr rfl) (pe_op op_mulA (pe_op op_mulA (pe_op op_mulA (pe_op op_powW pe_int pe_int) (pe_op op_powW pe_int pe_int)) (pe_op op_powW pe_int pe_int)) (pe_op op_powW pe_int pe_int)))
  (pss_one (ps_ret (pe_lst (pa_cons (pe_op op_mod (pe_callTy call_int1 (by rfl) T.n_int (by decide +kernel) (pa_cons (pe_op op_sub (pv 2) (pe_op op_powW pe_int pe_int)) pa_nil)) (pe_op op_mulA (pe_op op_mulA (pv 5) (pv 5)) (pv 5))) (pa_cons (pv 3) pa_nil)))))))))))), ?_⟩
  have ec : ∃ ms : List Int, cutV (ns.map V.int) none (some 1) = ms.map V.int := ⟨ns.take 1, by rw [show (1 : Int) = ((1 : Nat) : Int) from rfl, cut_take, List.map_take]⟩
  obtain ⟨ms, em⟩ := ec
  have c1 : ∀ {i : Int} {k : Int}, -(2 ^ 64) < k → k < 2 ^ 64 → CMulA i k := fun h1 h2 => .inl (.inr ⟨h1, h2⟩)
  have c2 : ∀ {i : Int} {k : Int}, -(2 ^ 64) < k → k < 2 ^ 64 → CMulA k i := fun h1 h2 => .inl (.inl ⟨h1, h2⟩)
  refine ⟨_, rfl, _, _, rfl, rfl, c2 (by decide) (by decide), _, _, rfl, rfl, _, rfl, _, rfl, a, _, rfl, hS, fun p np => ?_⟩
  obtain ⟨H1, e1, s1, hp1⟩ := fresh (.lst (cutV (ns.map V.int) none (some 1))) np
  rw [e1]
  refine ⟨p, ms, rfl, .inl (.inl (by rw [hp1, em])), _, _, rfl, rfl, (by show (0 : Int) < 1000003; decide), _, _, rfl, rfl, ?_⟩
  have c3 : ∀ i k : Int, CMulA i (k % 2147483033) := fun i k => .inl (.inr ⟨by have := Int.emod_nonneg k (show (2147483033 : Int) ≠ 0 by decide); omega, by have := Int.emod_lt_of_pos k (show (0 : Int) < 2147483033 by decide); omega⟩)
  generalize ((23 : Int) * 0 + 11 + ms.sum % 1000003) = c0
  refine ⟨_, rfl, _, rfl, a, _, rfl, .inl (s1.seq hS), _, _, rfl, rfl, _, rfl, ?_⟩
  by_cases h : 0 < ns.length
  rotate_left
  · refine iteDF (by rw [List.length_map]; omega) ?_
    refine ⟨_, rfl, _, rfl, _, _, rfl, rfl, c2 (by decide) (by decide), _, _, rfl, rfl, .inl ⟨_, rfl, _, _, rfl, rfl, (by show (0 : Int) < 2147483053; decide), _, rfl, .inl ⟨_, rfl, _, _, rfl, rfl, (by show (0 : Int) < 2147483033; decide), ?_⟩⟩⟩
    refine ⟨_, _, rfl, _, rfl, (by decide), (by decide), ?_⟩
    refine for_range (lo := 0) (n := ((120 : Int)).toNat) (fun i σ H2 => ∃ (f n t : Int) (v : Option V), σ = [some (.ref a), some (.int 0), some (.int (23 * 0 + 11 + ms.sum % 1000003)), some (.int f), v, none, some (.int n), some (.int t)] ∧ 0 ≤ t ∧ t < 2147483033 ∧ H2 = H1) ⟨_, _, _, none, rfl, Int.emod_nonneg _ (by decide), Int.emod_lt_of_pos _ (by decide), rfl⟩ ?_ ?_
    · rintro i σ H2 hi ⟨f, n, t, v, rfl, t0, t1, rfl⟩
      refine ⟨_, rfl, _, _, rfl, rfl, c1 (by decide) (by decide), _, rfl, _, _, rfl, rfl, c1 (by decide) (by decide), _, _, rfl, rfl, _, rfl, _, _, rfl, rfl, c2 (by decide) (by decide), _, _, rfl, rfl, _, _, rfl, rfl, .inl ⟨_, rfl, _, _, rfl, rfl, (by show (0 : Int) < 2147483053; decide), ?_⟩⟩
      refine ⟨_, rfl, _, rfl, _, _, rfl, rfl, .inl (.inl ⟨by omega, by omega⟩), _, rfl, _, _, rfl, rfl, c2 (by decide) (by decide), _, _, rfl, rfl, _, _, rfl, rfl, .inl ⟨_, rfl, _, _, rfl, rfl, (by show (0 : Int) < 2147483033; decide), ?_⟩⟩
      refine ⟨_, rfl, _, _, rfl, rfl, c1 (by decide) (by decide), _, rfl, _, rfl, _, _, rfl, rfl, c3 _ _, _, rfl, _, _, rfl, rfl, c2 (by decide) (by decide), _, _, rfl, rfl, .inl ⟨_, rfl, _, _, rfl, rfl, (by show (0 : Int) < 2147483032; decide), _, _, rfl, rfl, ?_⟩⟩
      exact ⟨_, _, _, _, rfl, Int.emod_nonneg _ (by decide), Int.emod_lt_of_pos _ (by decide), rfl⟩
    · rintro σ H2 ⟨f, n, t, v, rfl, t0, t1, rfl⟩
      refine ⟨_, rfl, _, _, rfl, rfl, ⟨by decide, by decide +kernel⟩, _, _, rfl, rfl, _, rfl, ite2 (fun e => ?_) (fun e => ?_)⟩
      · refine ⟨_, rfl, (by show 1 ≤ sizeLine; decide), fun g ng => ?_⟩
        exact q _ _ (s1.trans (same_upd ng)) (s1.free ng) ⟨[f], upd_same, .inl rfl⟩
      · refine ⟨_, _, rfl, rfl, ⟨by decide, by decide +kernel⟩, _, _, rfl, rfl, ⟨by decide, by decide +kernel⟩, _, _, rfl, rfl, cmulx_dec (by decide +kernel), _, _, rfl, rfl, ⟨by decide, by decide +kernel⟩, _, _, rfl, rfl, cmulx_dec (by decide +kernel), _, _, rfl, rfl, ⟨by decide, by decide +kernel⟩, _, _, rfl, rfl, cmulx_dec (by decide +kernel), ?_⟩
        refine ⟨_, rfl, _, _, rfl, rfl, ⟨by decide, by decide +kernel⟩, _, _, rfl, rfl, .inl ⟨_, rfl, _, rfl, _, rfl, _, _, rfl, rfl, cmulx_dec (by decide +kernel), _, rfl, _, _, rfl, rfl, cmulx_dec (by decide +kernel), _, _, rfl, rfl, (by dsimp only; decide +kernel), _, rfl, (by show 2 ≤ sizeLine; decide), fun g ng => ?_⟩⟩
        exact q _ _ (s1.trans (same_upd ng)) (s1.free ng) ⟨[_, f], upd_same, .inr rfl⟩
  · obtain ⟨x, r, rfl⟩ : ∃ x r, ns = x :: r := by
      cases ns with
      | nil => cases h
      | cons x r => exact ⟨x, r, rfl⟩
    refine iteDT (by rw [List.length_map, List.length_cons]; omega) ?_
    refine ⟨_, rfl, _, rfl, a, _, _, .int x, rfl, rfl, s1.seq hS, at0 _ _, ?_⟩
    refine ⟨_, rfl, _, rfl, _, _, rfl, rfl, c2 (by decide) (by decide), _, _, rfl, rfl, .inl ⟨_, rfl, _, _, rfl, rfl, (by show (0 : Int) < 2147483053; decide), _, rfl, .inl ⟨_, rfl, _, _, rfl, rfl, (by show (0 : Int) < 2147483033; decide), ?_⟩⟩⟩
    refine ⟨_, _, rfl, _, rfl, (by decide), (by decide), ?_⟩
    refine for_range (lo := 0) (n := ((120 : Int)).toNat) (fun i σ H2 => ∃ (f n t : Int) (v : Option V), σ = [some (.ref a), some (.int 0), some (.int x), some (.int f), v, none, some (.int n), some (.int t)] ∧ 0 ≤ t ∧ t < 2147483033 ∧ H2 = H1) ⟨_, _, _, none, rfl, Int.emod_nonneg _ (by decide), Int.emod_lt_of_pos _ (by decide), rfl⟩ ?_ ?_
    · rintro i σ H2 hi ⟨f, n, t, v, rfl, t0, t1, rfl⟩
      refine ⟨_, rfl, _, _, rfl, rfl, c1 (by decide) (by decide), _, rfl, _, _, rfl, rfl, c1 (by decide) (by decide), _, _, rfl, rfl, _, rfl, _, _, rfl, rfl, c2 (by decide) (by decide), _, _, rfl, rfl, _, _, rfl, rfl, .inl ⟨_, rfl, _, _, rfl, rfl, (by show (0 : Int) < 2147483053; decide), ?_⟩⟩
      refine ⟨_, rfl, _, rfl, _, _, rfl, rfl, .inl (.inl ⟨by omega, by omega⟩), _, rfl, _, _, rfl, rfl, c2 (by decide) (by decide), _, _, rfl, rfl, _, _, rfl, rfl, .inl ⟨_, rfl, _, _, rfl, rfl, (by show (0 : Int) < 2147483033; decide), ?_⟩⟩
      refine ⟨_, rfl, _, _, rfl, rfl, c1 (by decide) (by decide), _, rfl, _, rfl, _, _, rfl, rfl, c3 _ _, _, rfl, _, _, rfl, rfl, c2 (by decide) (by decide), _, _, rfl, rfl, .inl ⟨_, rfl, _, _, rfl, rfl, (by show (0 : Int) < 2147483032; decide), _, _, rfl, rfl, ?_⟩⟩
      exact ⟨_, _, _, _, rfl, Int.emod_nonneg _ (by decide), Int.emod_lt_of_pos _ (by decide), rfl⟩
    · rintro σ H2 ⟨f, n, t, v, rfl, t0, t1, rfl⟩
      refine ⟨_, rfl, _, _, rfl, rfl, ⟨by decide, by decide +kernel⟩, _, _, rfl, rfl, _, rfl, ite2 (fun e => ?_) (fun e => ?_)⟩
      · refine ⟨_, rfl, (by show 1 ≤ sizeLine; decide), fun g ng => ?_⟩
        exact q _ _ (s1.trans (same_upd ng)) (s1.free ng) ⟨[f], upd_same, .inl rfl⟩
      · refine ⟨_, _, rfl, rfl, ⟨by decide, by decide +kernel⟩, _, _, rfl, rfl, ⟨by decide, by decide +kernel⟩, _, _, rfl, rfl, cmulx_dec (by decide +kernel), _, _, rfl, rfl, ⟨by decide, by decide +kernel⟩, _, _, rfl, rfl, cmulx_dec (by decide +kernel), _, _, rfl, rfl, ⟨by decide, by decide +kernel⟩, _, _, rfl, rfl, cmulx_dec (by decide +kernel), ?_⟩
        refine ⟨_, rfl, _, _, rfl, rfl, ⟨by decide, by decide +kernel⟩, _, _, rfl, rfl, .inl ⟨_, rfl, _, rfl, _, rfl, _, _, rfl, rfl, cmulx_dec (by decide +kernel), _, rfl, _, _, rfl, rfl, cmulx_dec (by decide +kernel), _, _, rfl, rfl, (by dsimp only; decide +kernel), _, rfl, (by show 2 ≤ sizeLine; decide), fun g ng => ?_⟩⟩
        exact q _ _ (s1.trans (same_upd ng)) (s1.free ng) ⟨[_, f], upd_same, .inr rfl⟩
end
end My

namespace My
open PySem PySem.Spec PyProof.Rows L2 Pre
/-! ### what the law of stuffed rows draws -/
theorem sign_at {d : Nat} (h : (d : Int) < 2) : atI (bS [false, true]).cps.toList (d : Int) = some (sgn (d == 1)) := by
  have : d = 0 ∨ d = 1 := by omega
  rcases this with rfl | rfl
  · exact bS_atI (bs := [false, true]) rfl
  · exact bS_atI (bs := [false, true]) rfl
theorem strok_bS (bs : List Bool) : PyData.strOk (bS bs) = true := by
  unfold PyData.strOk bS
  rw [← Array.all_toList, List.all_eq_true]
  intro c hc
  obtain ⟨b, _, rfl⟩ := List.mem_map.mp (show c ∈ bs.map sgn by simpa using hc)
  cases b <;> decide
theorem other_at (z : Bool) : atI (bS [true, false]).cps.toList ((z.toNat : Nat) : Int) = some (sgn (!z)) := by
  cases z
  · exact bS_atI (bs := [true, false]) rfl
  · exact bS_atI (bs := [true, false]) rfl
/-- a thing that was not there at first changes -/
theorem But.over {g s : Addr} {H H' : Hp} {o : HO} (b : But g H H') (ns : H s = none) : But g H (L2.upd H' s o) := fun c u nc hc => by
  rw [upd_ne (ne_of_none hc ns)]
  exact b c u nc hc
theorem PumpAt.upd {g s : Addr} {H : Hp} {o : HO} (h : PumpAt H g) (ne : s ≠ g) : PumpAt (L2.upd H s o) g := by
  obtain ⟨ns, a, b⟩ := h
  exact ⟨ns, by rw [upd_ne ne.symm]; exact a, b⟩
theorem flat_len (x : List Bool) (k : Nat) : (List.replicate k x).flatten.length = k * x.length := by
  induction k with
  | zero => simp
  | succ k ih => rw [List.replicate_succ, List.flatten_cons, List.length_append, ih, Nat.succ_mul]; omega
theorem strs_dp {K : PySem.W.Frag} {H : Hp} : ∀ l : List Str, DpAll K H (l.map V.str) (l.map PyData.str)
  | [] => .nil
  | x :: r => .cons (.str x) (strs_dp r)
theorem sg_eq (t : List Bool) : sg t = (t.map fun b => bS [b]).map V.str := by unfold sg; rw [List.map_map]; rfl
theorem sg_take (t : List Bool) (k : Nat) : (sg t).take k = sg (t.take k) := by unfold sg; rw [List.map_take]
theorem join_sg' {K : PySem.W.Frag} {H : Hp} {a : Addr} {t : List Bool} (h : H a = some (.lst (sg t))) (hz : t.length ≤ 100000) :
    ∃ ys : List Str, (SqL K H a (ys.map V.str) ∨ SqT K H a (ys.map V.str)) ∧ (ys.map fun x => x.length).sum + ys.length * ((("" : String) : Str)).length ≤ 16777216 ∧ Txt.join (("" : String) : Str) ys = bS t := by
  obtain ⟨x, p, ys, e1, e2, h1, h2, h3⟩ := join_sg (K := K) (Q := fun u _ => u = .str (bS t)) h hz rfl
  cases e1
  cases e2
  exact ⟨ys, h1, h2, V.str.inj h3⟩
theorem eq_sg {K : PySem.W.Frag} {H : Hp} {s p : Addr} {t : List Bool} {Q : V → Hp → Prop} (h : H s = some (.lst (sg t))) (hp : H p = some (.lst [])) (q : Q (.bl (decide (t = []))) H) : rEqD K (.ref s) (.ref p) H Q := by
  refine ⟨.list ((t.map fun b => bS [b]).map PyData.str), .list [], .lst (.inl (.inl (by rw [h, sg_eq]))) (strs_dp _), .lst (.inl (.inl hp)) .nil, strs_shaped fun x hx => by obtain ⟨b, _, rfl⟩ := List.mem_map.mp hx; exact strok_bS _, rfl, ?_⟩
  have e : PyData.eqv (.list ((t.map fun b => bS [b]).map PyData.str)) (.list []) = decide (t = []) := by
    cases t with
    | nil => rfl
    | cons b r => rfl
  rw [e]
  exact q
local macro_rules | `(tactic| walk_at "go") => `(tactic| repeat (first | (with_reducible first | refine iteT ?_ | refine iteF ?_ | refine iteNtt ?_ | refine iteNff ?_ | refine iteET (by omega) ?_ | refine iteEF (by omega) ?_ | refine iteENT (by omega) ?_ | refine iteENF (by omega) ?_ | refine iteDT (by omega) ?_ | refine iteDF (by omega) ?_ | refine iteNT (by omega) ?_ | refine iteNF (by omega) ?_) | refine ⟨_, rfl, ?_⟩ | refine ⟨_, _, rfl, rfl, ?_⟩ | refine ⟨_, _, rfl, ?_⟩ | refine ⟨rfl, ?_⟩ | refine .inl ⟨_, rfl, ?_⟩ | refine .inr ⟨_, rfl, ?_⟩))
local macro_rules | `(tactic| walk_at "b") => `(tactic| try dsimp (config := { proj := false, iota := false, eta := false, zeta := false }) only)
section
variable {P : Program} {w : World} {K : PySem.W.Frag} {mg : Str → Option Value} {base : Heap} [pf : Sup.PF P fileS]
def sp_law_mark : Sp := fun vs H Q _ => ∃ (g : Addr) (lo hi : Nat), vs = [.ref g, .int lo, .int hi] ∧ PumpAt H g ∧ lo ≤ hi ∧ hi ≤ 100 ∧ ∀ (H' : Hp) (bs : List Bool), But g H H' → PumpAt H' g → lo ≤ bs.length → bs.length ≤ hi → Q (.str (bS bs)) H'
theorem G_law_mark (T : Top K mg) : FnOk P w K mg base CX0 2 T.f_law_mark T.fd_law_mark ["_law_pump_here", "_law_least", "_law_most"] sp_law_mark := by
  refine T.F_law_mark.ok sc_law_mark (fun vs H Q E h => by obtain ⟨g, lo, hi, rfl, _⟩ := h; rfl) (fun cdv A outer s H vs Q E hr h => ?_)
  obtain ⟨g, lo, hi, rfl, hg, h0, h1, q⟩ := h
  refine ⟨_, PSs.nox (pss_cons (ps_par (by rfl) sc_law_mark.nd (i := 4) (j := 5) rfl rfl (by decide) rfl rfl (pa_cons (pe_op op_add (pv 1) (pe_call (G_law_cup (P := P) T) (hr.mono (by decide)) (by rfl) T.g_law_cup T.F_law_cup.kp T.b_law_cup .nil pass0 (pa_cons (pv 0) (pa_cons (pe_op op_add (pe_op op_sub (pv 2) (pv 1)) pe_int) pa_nil)))) (pa_cons (pe_lst pa_nil) pa_nil)) (by rfl))
  (pss_cons (ps_for PassesOwn.never rfl (pi_range1 (by rfl) T.n_range (pa_cons (pv 4) pa_nil)) (pg_name (i := 3) sc_law_mark.nd rfl (by first | exact Or.inl rfl | exact Or.inr rfl))
    (pss_one (ps_expr (pe_bm PySem.F.plainAttrs_list PySem.F.slot_list_append PySem.F.type_list_append mt_append (pv 5) (pa_cons (pe_ix ix_str pe_str (pe_call (G_law_cup (P := P) T) (hr.mono (by decide)) (by rfl) T.g_law_cup T.F_law_cup.kp T.b_law_cup .nil pass0 (pa_cons (pv 0) (pa_cons pe_int pa_nil))) (fun _ _ => rfl)) pa_nil)))))
  (pss_one (ps_ret (pe_join pe_str (pv 5)))))), ?_⟩
  refine ⟨_, rfl, _, rfl, _, rfl, _, rfl, _, _, rfl, rfl, _, _, rfl, rfl, g, _, rfl, hg, by omega, by omega, fun H1 d b1 g1 hd => ?_⟩
  refine ⟨_, _, rfl, rfl, Nat.zero_le _, fun s ns => ?_⟩
  obtain ⟨H2, e2, s2, hs2⟩ := fresh (.lst ([] : List V)) ns
  rw [e2]
  have sg : s ≠ g := g1.ne ns
  refine ⟨_, _, rfl, _, rfl, _, rfl, by omega, by omega, ?_⟩
  refine for_range (lo := 0) (n := ((lo : Int) + (d : Int)).toNat) (fun i σ H3 => ∃ (t : List Bool) (v : Option V), σ = [some (.ref g), some (.int lo), some (.int hi), v, some (.int ((lo : Int) + (d : Int))), some (.ref s)] ∧ But g H1 H3 ∧ PumpAt H3 g ∧ H3 s = some (.lst (My.sg t)) ∧ t.length = i) ⟨[], none, rfl, But.of s2, g1.same s2, hs2, rfl⟩ ?_ ?_
  · rintro i σ H3 hi ⟨t, v, rfl, b3, g3, hs3, hl⟩
    refine ⟨_, rfl, .inl ⟨rfl, _, .inl (.inl hs3)⟩, _, rfl, g, _, rfl, g3, (by decide), (by decide), fun H4 c b4 g4 hc => ?_⟩
    rw [str_01]
    refine ⟨_, _, sgn (c == 1), rfl, rfl, by rw [bS_len]; decide, sign_at hc, ?_⟩
    have hs4 := b4 _ _ sg hs3
    rw [bS_one]
    refine ⟨s, _, _, rfl, rfl, hs4, by rw [My.sg, List.length_map, sizeLine_eq]; omega, ?_⟩
    rw [sg_snoc]
    refine ⟨_, _, rfl, ?_, ?_, upd_same, by rw [List.length_append, hl]; rfl⟩
    · exact (b3.trans b4).over ns
    · exact g4.upd sg
  · rintro σ H3 ⟨t, v, rfl, b3, g3, hs3, hl⟩
    refine ⟨⟨_, rfl⟩, _, rfl, join_sg hs3 (by omega) ?_⟩
    exact q _ t (b1.trans b3) g3 (by omega) (by omega)
def sp_law_keepable : Sp := fun vs H Q _ => ∃ (A : List Bool) (z : Bool), vs = [.str (bS (A ++ [z]))] ∧ A.length ≤ 100 ∧ ∀ H', Same H H' → Q (.bl (decide (z ∈ A))) H'
theorem G_law_keepable (T : Top K mg) : FnOk P w K mg base CX0 1 T.f_law_keepable T.fd_law_keepable ["_law_mark_here"] sp_law_keepable := by
  refine T.F_law_keepable.ok sc_law_keepable (fun vs H Q E h => by obtain ⟨A, z, rfl, _⟩ := h; rfl) (fun cdv A outer s H vs Q E hr h => ?_)
  obtain ⟨A, z, rfl, hz, q⟩ := h
  refine ⟨_, PSs.nox (pss_one (ps_ret (pe_cmpR (k_neD K rfl hr.units) (pe_lc (own := [("_law_bit", 1)]) (g := gName 1) (by rfl) sc_law_keepable.nd (pi_str (pe_slice sl_str (pv 0) po_none (po_some (pe_un un_neg pe_int)))) (blkOk_by (own := [("_law_bit", 1)]) (N := N_law_keepable) (sc := defScope s_law_keepable) (by decide +kernel)) (fun _ _ _ _ _ => (pg_name (i := 1) sc_law_keepable.nd rfl (by first | exact Or.inl rfl | exact Or.inr rfl))) (fun _ _ _ _ _ => (pts_one (pt_cmpR op_eq (pv 1) (pe_ix ix_str (pv 0) (pe_un un_neg pe_int) (fun _ _ => rfl)) (nomark _)))) (fun _ _ _ _ _ => (pv 1))) (pe_lst pa_nil) (nomark _)))), ?_⟩
  have hl : (bS (A ++ [z])).length = A.length + 1 := by rw [bS_len, List.length_append, List.length_singleton]
  refine ⟨_, rfl, _, rfl, _, rfl, _, rfl, by rw [hl, sizeLine_eq]; omega, _, rfl, fun D nD => ?_⟩
  rw [cut_head]
  refine lc_dW walk_str (Has.nil (H := H)) (A.map fun b => if b = z then some (PyData.str (bS [b])) else none) nD (by rw [List.length_map, bS_size]) (by rw [bS_size]; exact small4 (by omega)) (fun _ _ => trivial) ?_ ?_
  · rintro i o H0 x H' hi ho s0 hS ⟨rfl, c, hc, rfl⟩ Qt qt
    obtain ⟨b, hb, ec⟩ := bS_at hc
    rw [ec]
    refine ⟨rfl, ?_⟩
    rw [List.getElem?_map, hb] at ho
    cases ho
    refine ⟨_, rfl, _, rfl, _, rfl, _, _, sgn z, rfl, rfl, by rw [hl, sizeLine_eq]; omega, at_last A z, rfl, _, rfl, ?_⟩
    rw [bS_one, dec_bS]
    dsimp only at qt
    by_cases hbz : b = z
    · rw [if_pos hbz] at qt
      exact iteDT (by rw [hbz]) ⟨_, rfl, qt _ _ (Same.refl _) (.str _)⟩
    · rw [if_neg hbz] at qt
      exact iteDF (fun h => hbz (List.cons.inj h).1) (qt none _ (Same.refl _) trivial)
  · intro H' s hD hd
    rw [rs_nil] at hd
    refine ⟨Nat.zero_le _, fun p np => ?_⟩
    have ef : ∀ A : List Bool, (A.map fun b => if b = z then some (PyData.str (bS [b])) else none).filterMap id = ((A.filter (· == z)).map fun b => bS [b]).map PyData.str := fun A => by
      induction A with
      | nil => rfl
      | cons b r ih =>
        rw [List.map_cons, List.filterMap_cons, List.filter_cons]
        by_cases h : b = z
        · rw [if_pos h, if_pos (beq_iff_eq.mpr h), ih]
          rfl
        · rw [if_neg h, if_neg (fun k => h (beq_iff_eq.mp k)), ih]
          rfl
    rw [ef] at hd
    refine ⟨_, _, (Dt.same (same_upd np) hd).dp, .lst (.inl (.inl upd_same)) .nil, strs_shaped (fun x hx => by obtain ⟨b, _, rfl⟩ := List.mem_map.mp hx; exact strok_bS _), rfl, ?_⟩
    have e0 : (!PyData.eqv (.list (((A.filter (· == z)).map fun b => bS [b]).map PyData.str)) (.list [])) = decide (z ∈ A) := by
      by_cases h : z ∈ A
      · rw [decide_eq_true h]
        cases hf : A.filter (· == z) with
        | nil => exact absurd h (fun h => by have h2 : z ∈ A.filter (· == z) := List.mem_filter.mpr ⟨h, beq_self_eq_true z⟩; rw [hf] at h2; cases h2)
        | cons y r => rfl
      · rw [decide_eq_false h, List.filter_eq_nil_iff.mpr fun b hb k => h (by rw [← (beq_iff_eq.mp (show (b == z) = true from k))]; exact hb)]
        rfl
    rw [e0]
    exact q _ (s.trans (same_upd np))
def sp_law_keepable_mark : Sp := fun vs H Q _ => ∃ (g : Addr) (lo hi : Nat), vs = [.ref g, .int lo, .int hi] ∧ PumpAt H g ∧ 2 ≤ lo ∧ lo ≤ hi ∧ hi ≤ 16 ∧ ∀ (H' : Hp) (A : List Bool) (z : Bool), But g H H' → PumpAt H' g → 1 ≤ A.length → A.length + 1 ≤ hi → Keep A z → Q (.str (bS (A ++ [z]))) H'
def sp_law_bits : Sp := fun vs H Q _ => ∃ (g : Addr) (most : Nat), vs = [.ref g, .int most] ∧ PumpAt H g ∧ most ≤ 100 ∧ ∀ (H' : Hp) (bs : List Bool), But g H H' → PumpAt H' g → bs.length ≤ most → Q (.str (bS bs)) H'
theorem stuff_take {A : List Bool} {z : Bool} {bs : List Bool} {i : Nat} {b : Bool} (hb : bs[i]? = some b) : stuff A z (bs.take (i + 1)) = if A <:+ stuff A z (bs.take i) ++ [b] then stuff A z (bs.take i) ++ [b] ++ [!z] else stuff A z (bs.take i) ++ [b] := by
  have ht : bs.take (i + 1) = bs.take i ++ [b] := by rw [List.take_add_one, hb]; rfl
  rw [ht, stuff_snoc]
def sp_law_stuffed : Sp := fun vs H Q _ => ∃ (A : List Bool) (z : Bool) (bs : List Bool), vs = [.str (bS (A ++ [z])), .str (bS bs)] ∧ A.length ≤ 100 ∧ bs.length ≤ 10000 ∧ Q (.str (bS (stuff A z bs))) H
def sp_law_words : Sp := fun vs H Q _ => ∃ n : Nat, vs = [.int n] ∧ n ≤ 12 ∧ ∀ H' a, Same H H' → H a = none → H' a = some (.lst ((wds n).map fun x => V.str (bS x))) → Q (.ref a) H'
theorem G_law_words (T : Top K mg) : FnOk P w K mg base CX0 1 T.f_law_words T.fd_law_words ["_law_many"] sp_law_words := by
  refine T.F_law_words.ok sc_law_words (fun vs H Q E h => by obtain ⟨n, rfl, _⟩ := h; rfl) (fun cdv A outer s H vs Q E hr h => ?_)
  obtain ⟨n, rfl, hz, q⟩ := h
  refine ⟨_, PSs.nox (pss_cons (ps_set (i := 1) sc_law_words.nd rfl (by first | exact Or.inl rfl | exact Or.inr rfl) (pe_lst (pa_cons pe_str pa_nil)))
  (pss_cons (ps_for PassesOwn.never rfl (pi_range1 (by rfl) T.n_range (pa_cons (pv 0) pa_nil)) (pg_name (i := 2) sc_law_words.nd rfl (by first | exact Or.inl rfl | exact Or.inr rfl))
    (pss_cons (ps_set (i := 3) sc_law_words.nd rfl (by first | exact Or.inl rfl | exact Or.inr rfl) (pe_lst pa_nil))
  (pss_cons (ps_for PassesOwn.never rfl (k_piL K rfl (pv 1)) (pg_name (i := 4) sc_law_words.nd rfl (by first | exact Or.inl rfl | exact Or.inr rfl))
    (pss_one (ps_set (i := 3) sc_law_words.nd rfl (by first | exact Or.inl rfl | exact Or.inr rfl) (pe_op op_cat (pv 3) (pe_lst (pa_cons (pe_op op_add_str (pv 4) pe_str) (pa_cons (pe_op op_add_str (pv 4) pe_str) pa_nil)))))))
  (pss_one (ps_set (i := 1) sc_law_words.nd rfl (by first | exact Or.inl rfl | exact Or.inr rfl) (pv 3))))))
  (pss_one (ps_ret (pv 1))))), ?_⟩
  refine ⟨by show 1 ≤ sizeLine; decide, fun a na => ?_⟩
  obtain ⟨H1, e1, s1, ha1⟩ := fresh (.lst [V.str (("" : String) : Str)]) na
  rw [e1]
  rw [str_nil] at ha1
  refine ⟨_, rfl, _, rfl, by omega, by omega, ?_⟩
  refine for_range (lo := 0) (n := ((n : Int)).toNat) (fun i σ H2 => ∃ (b : Addr) (v2 v3 v4 : Option V), σ = [some (.int n), some (.ref b), v2, v3, v4] ∧ Same H H2 ∧ H b = none ∧ H2 b = some (.lst ((wds i).map fun x => V.str (bS x)))) ⟨a, none, none, none, rfl, s1, na, ha1⟩ ?_ ?_
  · rintro i σ H2 hi ⟨b, v2, v3, v4, rfl, s2, nb, hb2⟩
    refine ⟨Nat.zero_le _, fun c nc => ?_⟩
    obtain ⟨H3, e3, s3, hc3⟩ := fresh (.lst ([] : List V)) nc
    rw [e3]
    have bc : b ≠ c := ne_of_none hb2 nc
    refine ⟨_, rfl, b, rfl, ⟨_, .inl (.inl (s3 _ _ hb2))⟩, for_list (K := K) (a := b) (xs := (wds i).map fun x => V.str (bS x)) (fun j σ H4 => ∃ (d : Addr) (v4 : Option V), σ = [some (.int n), some (.ref b), some (.int (0 + (i : Int))), some (.ref d), v4] ∧ Same H2 H4 ∧ H2 d = none ∧ H4 d = some (.lst ((((wds i).take j).flatMap fun x => [x ++ [false], x ++ [true]]).map fun x => V.str (bS x)))) ⟨c, v4, rfl, s3, nc, hc3⟩ (fun j σ H4 _ ⟨_, _, _, s4, _⟩ => .inl (.inl (s4 _ _ hb2))) ?_ ?_⟩
    · rintro j x σ H4 hx ⟨d, v4, rfl, s4, nd, hd4⟩
      rw [List.getElem?_map] at hx
      obtain ⟨y, hy, rfl⟩ := Option.map_eq_some_iff.mp hx
      have ly : y.length = i := (wds_mem i y).mp (List.mem_of_getElem? hy)
      have hlw := flat2_len ((wds i).take j)
      have hj : ((wds i).take j).length ≤ 4096 := by
        rw [List.length_take, wds_len]
        have : 2 ^ i ≤ 2 ^ 12 := Nat.pow_le_pow_right (by decide) (by omega)
        omega
      have hl1 : (bS y).length = i := by rw [bS_len, ly]
      refine ⟨_, rfl, _, rfl, _, _, rfl, rfl, by rw [hl1, str_zero, bS_len, sizeLine_eq]; show i + 1 ≤ _; omega, _, rfl, _, _, rfl, rfl, by rw [hl1, str_one, bS_len, sizeLine_eq]; show i + 1 ≤ _; omega, (by show 2 ≤ sizeLine; decide), fun p np => ?_⟩
      obtain ⟨H5, e5, s5, hp5⟩ := fresh (.lst [V.str (bS y ++ (("0" : String) : Str)), V.str (bS y ++ (("1" : String) : Str))]) np
      rw [e5]
      refine ⟨d, p, _, _, rfl, rfl, s5 _ _ hd4, hp5, by rw [List.length_map, hlw, sizeLine_eq]; show _ + 2 ≤ _; omega, fun e ne => ?_⟩
      refine ⟨e, _, rfl, (s4.trans s5).trans (same_upd ne), (s4.trans s5).free ne, ?_⟩
      rw [upd_same, List.take_add_one, hy, List.flatMap_append, List.map_append, str_zero, str_one, bS_app, bS_app]
      rfl
    · rintro σ H4 ⟨d, v4, rfl, s4, nd, hd4⟩
      rw [List.length_map, List.take_length] at hd4
      exact ⟨_, rfl, d, _, _, v4, rfl, s2.trans s4, s2.free nd, hd4⟩
  · rintro σ H2 ⟨b, v2, v3, v4, rfl, s2, nb, hb2⟩
    rw [Int.toNat_natCast] at hb2
    exact ⟨_, rfl, q _ b s2 nb hb2⟩
theorem cut_mid (A : List Bool) (z : Bool) (k : Nat) : cutS (bS (A ++ [z])) (some (k : Int)) (some (-1)) = bS (A.drop k) := by
  unfold cutS
  have e : HT.sIx (bS (A ++ [z])).length (bS (A ++ [z])).length (some (-1)) = A.length := by
    show (if (-1 : Int) < 0 then ((-1 : Int) + (((bS (A ++ [z])).length : Nat) : Int)).toNat else min (-1 : Int).toNat (bS (A ++ [z])).length) = _
    rw [if_pos (by decide), bS_len, List.length_append, List.length_singleton]
    omega
  rw [e, HT.sIx_nat, bS_list, bS_len, List.length_append, List.length_singleton]
  have : ((A ++ [z]).map sgn).drop (min k (A.length + 1)) = ((A ++ [z]).drop (min k (A.length + 1))).map sgn := List.map_drop.symm
  rw [this, ← List.map_take]
  show bS _ = bS _
  congr 1
  by_cases h : k ≤ A.length
  · rw [Nat.min_eq_left (by omega), List.drop_append_of_le_length h, List.take_append_of_le_length (by rw [List.length_drop]; exact Nat.le_refl _), List.take_of_length_le (by rw [List.length_drop]; exact Nat.le_refl _)]
  · rw [show A.length - min k (A.length + 1) = 0 by omega, List.drop_of_length_le (l := A) (by omega)]
    rfl
def sp_law_row : Sp := fun vs H Q _ => ∃ (g : Addr) (A : List Bool) (z : Bool) (most : Nat), vs = [.ref g, .str (bS (A ++ [z])), .int most] ∧ PumpAt H g ∧ A.length ≤ 15 ∧ most ≤ 100 ∧ ∀ (H' : Hp) (bs : List Bool), But g H H' → PumpAt H' g → bs.length ≤ most → Q (.str (bS bs)) H'
end
end My

namespace My
open PySem PySem.Spec PyProof.Rows L2 Pre
open Sem (wp)
/-! ### zip(xs, ys, strict=True) of lists and tuples of one length -/
/-- a strict zip object -/
abbrev SZip (h : Heap) (z TI TO : Addr) (f0 : Value) : Prop :=
  h.get? z = some { cls := .type "zip", dict := none, data := .fields #[f0, .bool false, .bool true, .ref TI, .ref TO], slots := #[] }
section
variable {prog : Program} {w : World} {A : Around} {E : Value → Shared → Prop} {s : Shared}
theorem draw_some {it : Addr} {fp : List Addr} {n i : Nat} {Pd : Nat → Value → Prop} {St : Nat → Heap → Prop} {Q : Option Value → Shared → Prop} (Dr : Draws prog w A it fp n Pd St) (lt : i < n) (st : St i s.heap)
    (go : ∀ x g' tk, Pd i x → St (i + 1) g' → Heap.SameBut it s.heap g' → Q (some x) { s with heap := g', toks := tk }) : wpAny (model prog w) A (Builtin.SmallTypes.nextOrEnd (.ref it)) Q E s := by
  unfold Builtin.SmallTypes.nextOrEnd
  exact wpAny_bind (wpAny_attempt (Dr.item i _ _ _ lt st fun x g' tk px st' sb => wpAny_pure (go x g' tk px st' sb)))
theorem draw_none {it : Addr} {fp : List Addr} {n : Nat} {Pd : Nat → Value → Prop} {St : Nat → Heap → Prop} {Q : Option Value → Shared → Prop} (Dr : Draws prog w A it fp n Pd St) (st : St n s.heap)
    (go : ∀ g', Heap.ExtBut it s.heap g' → Q none { s with heap := g' }) : wpAny (model prog w) A (Builtin.SmallTypes.nextOrEnd (.ref it)) Q E s := by
  unfold Builtin.SmallTypes.nextOrEnd
  refine wpAny_bind (wpAny_attempt (Dr.done _ _ _ st fun g' e ext he => ?_))
  obtain ⟨o, ho, hc⟩ := he
  exact wpAny_bind (wpAny_isInstance (T := "StopIteration") (b := true) ⟨o, ho, hc⟩ isSubtype_stop (wpAny_pure (go g' ext)))
theorem stop_raised {α : Type} {Q : α → Shared → Prop} (hh : A.handled = none) (go : ∀ g' e, (∀ c o, s.heap.get? c = some o → g'.get? c = some o) → (∃ o, g'.get? e = some o ∧ o.cls = .type "StopIteration") → E (.ref e) { s with heap := g' }) :
    wpAny (model prog w) A (Builtin.SmallTypes.stopIteration (α := α)) Q E s := by
  (show wpAny _ _ (newExc (.type "StopIteration") [] >>= _) _ _ _); refine wpAny_bind ?_; simp only [newExc, newTuple]
  refine wpAny_bind (wpAny_newObj_type (wpAny_bind (m := firstArgMember _ _) (wpAny_of_eq (a := Value.none) (by first | rfl | (simp only [firstArgMember]; rfl)) (wpAny_newObj_type ?_ (by size_fits)))) (by size_fits))
  simp only [raiseNew]; refine wpAny_bind (wpAny_handled ?_); rw [hh]; refine wpAny_bind (wpAny_pure (wpAny_throw ?_))
  exact go _ _ (fun c o e => Heap.get?_push_of_some _ (Heap.get?_push_of_some _ e)) ⟨_, Heap.get?_push_size _ rfl, rfl⟩
theorem zs_next (hh : A.handled = none) {z TI TO i1 i2 : Addr} {fp1 fp2 : List Addr} {n i : Nat} {Pa Pb : Nat → Value → Prop} {Sa Sb : Nat → Heap → Prop} {a b : Value} {Q : Value → Shared → Prop} (S : ZipSep2 z TI TO i1 i2 fp1 fp2)
    (Da : Draws prog w A i1 fp1 n Pa Sa) (Db : Draws prog w A i2 fp2 n Pb Sb) (hz : SZip s.heap z TI TO .none) (hI : IsTupOf2 s.heap TI (.ref i1) (.ref i2)) (hO : IsTupOf2 s.heap TO a b) (sa : Sa i s.heap) (sb : Sb i s.heap) (le : i ≤ n)
    (goes : i < n → ∀ x y g' tk, Pa i x → Pb i y → SZip g' z TI TO (rawInt s.heap.objs.size) → IsTupOf2 g' TO x y → Sa (i + 1) g' → Sb (i + 1) g' → IsTupOf2 g' s.heap.objs.size x y → g'.objs.size = s.heap.objs.size + 1 →
      (∀ c o, c ≠ z → c ≠ TO → c ≠ i1 → c ≠ i2 → s.heap.get? c = some o → g'.get? c = some o) → Q (.ref s.heap.objs.size) { s with heap := g', toks := tk })
    (ends : i = n → ∀ g' tk e, (∀ c o, c ≠ z → c ≠ TO → c ≠ i1 → c ≠ i2 → s.heap.get? c = some o → g'.get? c = some o) → (∃ o, g'.get? e = some o ∧ o.cls = .type "StopIteration") → E (.ref e) { s with heap := g', toks := tk }) :
    wpAny (model prog w) A (Builtin.«zip.__next__» ⟨[.ref z], []⟩) (fun fin s' => ∃ v, fin = .done (.ret v) ∧ Q v s') E s := by
  obtain ⟨hp, gs, dr, tk0, os⟩ := s
  (show wpAny _ _ (field (.ref z) 2 >>= _) _ _ _); refine wpAny_bind (wpAny_field hz rfl (x := .bool true) rfl ?_)
  (show wpAny _ _ (field (.ref z) 3 >>= _) _ _ _); refine wpAny_bind (wpAny_field hz rfl (x := .ref TI) rfl (wpAny_bind (wpAny_seqItems hI rfl ?_)))
  (show wpAny _ _ (Builtin.SmallTypes.ownedTupleIsFree (.ref z) >>= _) _ _ _); refine wpAny_bind ?_; unfold Builtin.SmallTypes.ownedTupleIsFree
  refine wpAny_bind (wpAny_field hz rfl (x := .none) rfl (wpAny_pure ?_)); simp only [if_true]; refine wpAny_bind (wpAny_rule (wpAny_bind (wpAny_field hz rfl (x := .ref TO) rfl ?_)))
  refine wpAny_bind (wpAny_setField_rec hz (by simp) fun g0 hz0 k0 => ?_)
  replace hz0 : SZip g0 z TI TO .ellipsis := hz0; replace k0 : Heap.SameBut z hp g0 := k0
  refine wpAny_bind ?_; simp only [List.zipIdx_cons, List.zipIdx_nil, List.forIn_cons, List.forIn_nil]; refine wpAny_bind (wpAny_bind (wpAny_onRaise ?_))
  (show wpAny _ _ (Builtin.SmallTypes.nextOrEnd (.ref i1)) _ _ ⟨g0, gs, dr, tk0, os⟩)
  rcases Nat.lt_or_ge i n with lt | ge
  · refine draw_some Da lt (Da.over sa k0 S.zf1) fun x p1 tk1 hx sn1 k1 => ?_
    have u1 : IsTupOf2 p1 TO a b := k1.extBut _ _ S.Ti1 (k0.extBut _ _ S.TOz hO)
    refine wpAny_bind (wpAny_seqItems (s := ⟨p1, gs, dr, tk1, os⟩) u1 rfl (wpAny_bind (updateSeq_IsTupOf2 (s := ⟨p1, gs, dr, tk1, os⟩) u1 fun g1 t1 m1 => wpAny_bind (wpAny_letGo (wpAny_pure ?_)))))
    replace t1 : IsTupOf2 g1 TO x b := t1; replace m1 : Heap.SameBut TO p1 g1 := m1
    refine wpAny_bind (wpAny_bind (wpAny_onRaise ?_)); (show wpAny _ _ (Builtin.SmallTypes.nextOrEnd (.ref i2)) _ _ ⟨g1, gs, dr, tk1, os⟩)
    refine draw_some Db lt (Db.over (Db.over (Db.over sb k0 S.zf2) k1 S.sep1_2) m1 S.Tf2) fun y p2 tk2 hy sn2 k2 => ?_
    replace k2 : Heap.SameBut i2 g1 p2 := k2
    have u2 : IsTupOf2 p2 TO x b := k2.extBut _ _ S.Ti2 t1
    refine wpAny_bind (wpAny_seqItems (s := ⟨p2, gs, dr, tk2, os⟩) u2 rfl (wpAny_bind (updateSeq_IsTupOf2 (s := ⟨p2, gs, dr, tk2, os⟩) u2 fun g2 t2 m2 => wpAny_bind (wpAny_letGo (wpAny_pure (wpAny_pure ?_))))))
    replace t2 : IsTupOf2 g2 TO x y := t2; replace m2 : Heap.SameBut TO p2 g2 := m2
    refine wpAny_bind (wpAny_seqItems (s := ⟨g2, gs, dr, tk2, os⟩) t2 rfl (wpAny_bind (wpAny_newTuple ?_)))
    have size2 : g2.objs.size = hp.objs.size := by rw [m2.1, k2.1, m1.1, k1.1, k0.1]
    have zz : SZip g2 z TI TO .ellipsis := m2.extBut _ _ S.TOz.symm (k2.extBut _ _ S.zi2 (m1.extBut _ _ S.TOz.symm (k1.extBut _ _ S.zi1 hz0)))
    have stay : ∀ c o, c ≠ z → c ≠ TO → c ≠ i1 → c ≠ i2 → hp.get? c = some o → g2.get? c = some o := fun c o cz cT c1 c2 e => m2.extBut _ _ cT (k2.extBut _ _ c2 (m1.extBut _ _ cT (k1.extBut _ _ c1 (k0.extBut _ _ cz e))))
    have na : Sa (i + 1) g2 := Da.over (Da.over (Da.over sn1 m1 S.Tf1) k2 S.sep2_1) m2 S.Tf1
    have nb : Sb (i + 1) g2 := Db.over sn2 m2 S.Tf2
    have zl : z < g2.objs.size := Heap.lt_size zz
    (show wpAny _ _ (Builtin.SmallTypes.ownedTupleHandOut (.ref z) (.ref g2.objs.size) >>= _) _ _ ⟨g2.push { cls := .type "tuple", data := .seq #[x, y] }, gs, dr, tk2, os⟩); refine wpAny_bind ?_; unfold Builtin.SmallTypes.ownedTupleHandOut
    have z3 : SZip (g2.push { cls := .type "tuple", data := .seq #[x, y] }) z TI TO .ellipsis := Heap.get?_push_of_some _ zz
    refine wpAny_bind (wpAny_setField_rec z3 (by simp) fun g4 z4 k4 => ?_)
    replace z4 : SZip g4 z TI TO (rawInt g2.objs.size) := z4
    refine wpAny_setField_rec z4 (by simp) fun g5 z5 k5 => ?_
    replace z5 : SZip g5 z TI TO (rawInt g2.objs.size) := z5; replace k4 : Heap.SameBut z (g2.push { cls := .type "tuple", data := .seq #[x, y] }) g4 := k4; replace k5 : Heap.SameBut z g4 g5 := k5
    have up5 : ∀ c o, c ≠ z → g2.get? c = some o → g5.get? c = some o := fun c o cz e => k5.extBut _ _ cz (k4.extBut _ _ cz (Heap.get?_push_of_some _ e))
    have t5 : IsTupOf2 g5 g2.objs.size x y := k5.extBut _ _ (Nat.ne_of_gt zl) (k4.extBut _ _ (Nat.ne_of_gt zl) (Heap.get?_push_size _ rfl))
    have size5 : g5.objs.size = g2.objs.size + 1 := by rw [k5.1, k4.1, Heap.size_push]
    rw [size2] at z5 t5 size5
    refine wpAny_pure ⟨_, rfl, ?_⟩; (show Q (.ref g2.objs.size) ⟨g5, gs, dr, tk2, os⟩); rw [size2]
    exact goes lt x y g5 tk2 hx hy z5 (up5 _ _ S.TOz t2) (Da.frame _ _ _ na fun c hc o e => up5 c o (fun q => S.zf1 (q ▸ hc)) e) (Db.frame _ _ _ nb fun c hc o e => up5 c o (fun q => S.zf2 (q ▸ hc)) e) t5 size5 fun c o cz cT c1 c2 e => up5 c o cz (stay c o cz cT c1 c2 e)
  · have ei : i = n := Nat.le_antisymm le ge
    subst ei
    refine draw_none Da (Da.over sa k0 S.zf1) fun g1 x1 => ?_
    replace x1 : Heap.ExtBut i1 g0 g1 := x1
    have z1 : SZip g1 z TI TO .ellipsis := x1 _ _ S.zi1 hz0
    refine wpAny_bind (wpAny_setField_rec (s := ⟨g1, gs, dr, tk0, os⟩) z1 (by simp) fun g2 z2 k2 => ?_)
    replace k2 : Heap.SameBut z g1 g2 := k2
    refine wpAny_bind ?_
    (show wpAny _ _ (forIn _ _ _ >>= _) _ _ ⟨g2, gs, dr, tk0, os⟩)
    simp only [List.drop_succ_cons, List.drop_zero, List.zipIdx_cons, List.zipIdx_nil, List.forIn_cons, List.forIn_nil]
    refine wpAny_bind (wpAny_bind (wpAny_bind (draw_none Db (s := ⟨g2, gs, dr, tk0, os⟩) (Db.frame _ _ _ sb fun c hc o e => ?_) fun g3 x3 => ?_)))
    · have cz : c ≠ z := fun q => S.zf2 (q ▸ hc)
      exact k2.extBut _ _ cz (x1 _ _ (fun q => S.sep1_2 (q ▸ hc)) (k0.extBut _ _ cz e))
    simp only [Option.isSome_none, Bool.false_eq_true, if_false]
    refine wpAny_pure (wpAny_pure (wpAny_bind (wpAny_rule (stop_raised (s := ⟨g3, gs, dr, tk0, os⟩) hh fun g4 e x4 he => ?_))))
    exact ends rfl g4 tk0 e (fun c o cz _ c1 c2 q => x4 _ _ (x3 _ _ c2 (k2.extBut _ _ cz (x1 _ _ c1 (k0.extBut _ _ cz q))))) he
theorem sz_type {z TI TO : Addr} {f0 : Value} (hz : SZip s.heap z TI TO f0) : s.TypeIs (.ref z) "zip" := ⟨_, hz, rfl⟩
theorem zs_pyNext (hh : A.handled = none) {z TI TO i1 i2 : Addr} {fp1 fp2 : List Addr} {n i : Nat} {Pa Pb : Nat → Value → Prop} {Sa Sb : Nat → Heap → Prop} {a b : Value} {Q : Option Value → Shared → Prop} (S : ZipSep2 z TI TO i1 i2 fp1 fp2)
    (Da : Draws prog w A.in1 i1 fp1 n Pa Sa) (Db : Draws prog w A.in1 i2 fp2 n Pb Sb) (hz : SZip s.heap z TI TO .none) (hI : IsTupOf2 s.heap TI (.ref i1) (.ref i2)) (hO : IsTupOf2 s.heap TO a b) (sa : Sa i s.heap) (sb : Sb i s.heap) (le : i ≤ n)
    (goes : i < n → ∀ x y g' tk, Pa i x → Pb i y → SZip g' z TI TO (rawInt s.heap.objs.size) → IsTupOf2 g' TO x y → Sa (i + 1) g' → Sb (i + 1) g' → IsTupOf2 g' s.heap.objs.size x y → g'.objs.size = s.heap.objs.size + 1 →
      (∀ c o, c ≠ z → c ≠ TO → c ≠ i1 → c ≠ i2 → s.heap.get? c = some o → g'.get? c = some o) → Q (some (.ref s.heap.objs.size)) { s with heap := g', toks := tk })
    (ends : i = n → ∀ g' tk, (∀ c o, c ≠ z → c ≠ TO → c ≠ i1 → c ≠ i2 → s.heap.get? c = some o → g'.get? c = some o) → Q none { s with heap := g', toks := tk }) :
    wpAny (model prog w) A (pyNext (.ref z)) Q E s := by
  unfold pyNext
  refine wpAny_bind (wpAny_attempt (wpAny_callSpecial?_slot (name := Str.ofString "__next__") (sz_type hz) F.slot_zip_next (wpAny_call_entry F.slot_zip_next (sz_type hz) F.entry_zip_next (zs_next (A := A.in1) (show A.in1.handled = none from hh) S Da Db hz hI hO sa sb le (fun lt x y g' tk p1 p2 p3 p4 p5 p6 p7 p8 p9 => wpAny_pure (goes lt x y g' tk p1 p2 p3 p4 p5 p6 p7 p8 p9)) fun e1 g' tk e k he => ?_) (F.args_zip_next_1 _))))
  obtain ⟨o, ho, hc⟩ := he
  exact wpAny_bind (wpAny_isInstance (T := "StopIteration") (b := true) ⟨o, ho, hc⟩ isSubtype_stop (wpAny_pure (ends e1 g' tk k)))
theorem zs_go {elts : List Expr} {k1} {pos : Pos} {z TI TO T : Addr} {Q : Unit → Shared → Prop} (hz : SZip s.heap z TI TO (rawInt T)) (go : ∀ g', SZip g' z TI TO .none → Heap.SameBut z s.heap g' → Q () { s with heap := g' }) :
    wpAny (model prog w) A (letOwnedTupleGo (.Tuple elts k1 pos) (.ref z) (.ref T)) Q E s := by
  unfold letOwnedTupleGo
  refine wpAny_bind (wpAny_load hz ?_)
  show wpAny _ _ (if (["enumerate", "zip", "dict_itemiterator", "dict_reverseitemiterator", "odict_iterator", "itertools.zip_longest", "itertools.pairwise"].contains "zip" && (#[rawInt T, .bool false, .bool true, .ref TI, .ref TO] : Array Value)[0]? == some (rawInt T)) = true then _ else _) Q E s
  rw [if_pos (by simp)]; refine wpAny_bind (wpAny_rule ?_); (show wpAny _ _ (setField (.ref z) 0 .none) Q E s)
  exact wpAny_setField_rec hz (by simp) fun g' z' k' => go g' z' k'
theorem zs_iter {z TI TO : Addr} {f0 : Value} {Q : Value → Shared → Prop} (hz : SZip s.heap z TI TO f0) (go : Q (.ref z) s) : wpAny (model prog w) A (pyIter (.ref z)) Q E s := by
  refine wpAny_pyIter_slot (sz_type hz) F.slot_zip_iter (wpAny_call_entry F.slot_zip_iter (sz_type hz) F.entry_zip_iter ?_ (F.args_zip_iter_1 _))
  (show wpAny _ _ (ret (.ref z)) _ _ s); exact wpAny_pure ⟨_, rfl, "zip", _, sz_type hz, F.slot_zip_next.lookup, go⟩
end
end My

namespace My
open PySem PySem.Spec PyProof.Rows L2 Pre
open Sem (wp)
theorem zs_tc (a b : Value) : checkTypeCall "zip" ⟨[a, b], [("strict", .bool true)]⟩ = pure () := by kernel_rfl
theorem zs_nc (a b : Value) : checkBuiltinCall "zip.__new__" ⟨[.type "zip", a, b], [("strict", .bool true)]⟩ = pure () := by kernel_rfl
theorem zs_ao (a b c : Value) : argsOk "object.__init__" ⟨[a, b, c], [("strict", .bool true)]⟩ := by
  unfold argsOk; rw [signature?_of (id := "object.__init__") (n := ['_', '_', 't', 'i', 'n', 'i', '_', '_']) (o := ['t', 'c', 'e', 'j', 'b', 'o']) (by kernel_rfl) PySem.F.owner_object]; kernel_rfl
section
variable {prog : Program} {w : World} {A : Around} {E : Value → Shared → Prop} {s : Shared}
theorem zs_init (v a b : Value) : Meets (Builtin.«object.__init__» ⟨[v, a, b], [("strict", .bool true)]⟩) (fun _ R s => s.TypeIs v "zip" ∧ R (.ok (.ret .none)) s) := by
  refine Meets.of_wp fun prog w A R s hs => ?_
  obtain ⟨hT, hq⟩ := hs; have hl := PySem.F.called_zip.init.lookup; have hm := PySem.F.called_zip.made
  repeat (any_goals (first | assumption | wp_step))
  exact ⟨_, rfl, hq⟩
theorem zs_call {a b : Value} {S : PySem.Spec} {Q : Value → Shared → Prop} (g : Meets (Builtin.«zip.__new__» ⟨[.type "zip", a, b], [("strict", .bool true)]⟩) S) (h : S A.in1 (wants (fun v s' => s'.TypeIs v "zip" ∧ Q v s') E) s) :
    wpAny (model prog w) A (call (.type "zip") [a, b] [("strict", .bool true)]) Q E s := by
  have ft := PySem.F.called_zip
  obtain ⟨c, tl, hmro⟩ := ft.mro
  have hmade := ft.made
  have hsub := ft.sub
  refine wpAny_call (codeAny_of_tree ?_)
  show wpAny _ _ (callAny (.type "zip") _) _ _ _
  refine wpAny_pure ⟨Code.quiet_builtin _ (by decide +kernel), codeAny_builtin PySem.F.entry_type_call ?_⟩
  rw [Around.under_plain (weight_type_call_type "zip" [a, b] [("strict", .bool true)]) (units_type_call_type "zip" [a, b] [("strict", .bool true)])]
  have h1 := ft.notType
  have h2 := ft.canCreate
  have htc := zs_tc a b
  repeat (any_goals (first | assumption | wp_step))
  refine codeAny_mono (codeAny_call_builtin ft.plain PySem.F.entry_zip_new (wpAny_of_eq (zs_nc a b) (g prog w A.in1 _ s h))) fun r s₁ hr => ?_
  cases r with
  | error e => exact hr
  | ok fl =>
    cases fl with
    | ret obj =>
      obtain ⟨hT, hq⟩ := hr
      have hli := ft.init.lookup
      have hbi := ft.init.bind obj
      repeat (any_goals (first | assumption | wp_step))
      refine codeAny_mono (codeAny_call_builtin ft.init.plain PySem.F.entry_object_init (ft.init.check _ _ _ _ _ _ _ _ hT (zs_ao obj a b) (zs_init obj a b prog w A.in1 _ s₁ (show (fun (_ : Around) (R : Except Value Flow → Shared → Prop) (s : Shared) => s.TypeIs obj "zip" ∧ R (.ok (.ret .none)) s) A.in1 (wants (fun r s₂ => r = .none ∧ Q obj s₂) E) s₁ from ⟨hT, rfl, hq⟩)))) fun r₂ s₂ hr₂ => ?_
      cases r₂ with
      | error e => exact hr₂
      | ok fl₂ =>
        cases fl₂ with
        | ret r =>
          obtain ⟨rfl, hq⟩ := hr₂
          repeat (any_goals (first | assumption | wp_step))
        | _ => exact hr₂.elim
    | _ => exact hr.elim
end
abbrev zq1 (h : Heap) (a : Addr) : Heap := h.push { cls := .type "tuple_iterator", data := .fields #[.ref a, .int 0 0] }
abbrev zq2 (h : Heap) (a b : Addr) : Heap := (zq1 h a).push { cls := .type "list_iterator", data := .fields #[.ref b, .int 0 0] }
abbrev zq3 (h : Heap) (a b : Addr) : Heap := (zq2 h a b).push { cls := .type "tuple", data := .seq #[.ref h.objs.size, .ref (zq1 h a).objs.size] }
abbrev zq4 (h : Heap) (a b : Addr) : Heap := (zq3 h a b).push { cls := .type "tuple", data := .seq #[.none, .none] }
abbrev zq5 (h : Heap) (a b : Addr) : Heap := (zq4 h a b).push { cls := .type "zip", data := .fields #[.none, .bool false, .bool true, .ref (zq2 h a b).objs.size, .ref (zq3 h a b).objs.size] }
theorem zs_new (a b : Addr) (xs ys : Array Value) :
    Meets (Builtin.«zip.__new__» ⟨[.type "zip", .ref a, .ref b], [("strict", .bool true)]⟩) (fun _ R s => s.heap.IsTuple a xs ∧ s.heap.IsList b ys ∧
      R (.ok (.ret (.ref (zq4 s.heap a b).objs.size))) { s with heap := zq5 s.heap a b }) :=
  .of_wp fun prog w A R s h => by
    obtain ⟨hp, g, d, tk, os⟩ := s; obtain ⟨ha, hb, h⟩ := h; have hsub := sub_zip
    have hA : Heap.IsTuple (Shared.heap ⟨hp, g, d, tk, os⟩) a xs := ha; have hB : Heap.IsList (Shared.heap ⟨hp.push { cls := .type "tuple_iterator", data := .fields #[.ref a, .int 0 0] }, g, d, tk, os⟩) b ys := Heap.IsList.push hb _
    wp_walk using wpAny_pyIter_tuple hA, wpAny_pyIter_list hB
    exact ⟨_, rfl, h⟩
end My

namespace My
open PySem PySem.Spec PyProof.Rows L2 Pre
open Sem (wp)
section
variable {prog : Program} {w : World} {A : Around} {E : Value → Shared → Prop} {s : Shared}
theorem zs_made {a b : Addr} {xs ys : Array Value} {Q : Value → Shared → Prop} (ha : s.heap.IsTuple a xs) (hb : s.heap.IsList b ys)
    (go : ∀ g', SZip g' (s.heap.objs.size + 4) (s.heap.objs.size + 2) (s.heap.objs.size + 3) .none → IsTupOf2 g' (s.heap.objs.size + 2) (.ref s.heap.objs.size) (.ref (s.heap.objs.size + 1)) → IsTupOf2 g' (s.heap.objs.size + 3) .none .none →
      g'.IsTupleIter s.heap.objs.size a 0 → g'.IsListIter (s.heap.objs.size + 1) b 0 → (∀ c o, s.heap.get? c = some o → g'.get? c = some o) → Q (.ref (s.heap.objs.size + 4)) { s with heap := g' }) :
    wpAny (model prog w) A (call (.type "zip") [.ref a, .ref b] [("strict", .bool true)]) Q E s := by
  refine zs_call (zs_new a b xs ys) ⟨ha, hb, ?_⟩
  have n1 : (zq1 s.heap a).objs.size = s.heap.objs.size + 1 := Heap.size_push ..
  have n2 : (zq2 s.heap a b).objs.size = s.heap.objs.size + 2 := by rw [Heap.size_push, n1]
  have n3 : (zq3 s.heap a b).objs.size = s.heap.objs.size + 3 := by rw [Heap.size_push, n2]
  have n4 : (zq4 s.heap a b).objs.size = s.heap.objs.size + 4 := by rw [Heap.size_push, n3]
  have p : ∀ {h : Heap} {o o' : Obj} {c : Addr}, h.get? c = some o → (h.push o').get? c = some o := fun e => Heap.get?_push_of_some _ e
  have q5 : (zq5 s.heap a b).get? (zq4 s.heap a b).objs.size = some _ := Heap.get?_push_size _ rfl
  have q4 : (zq5 s.heap a b).get? (zq3 s.heap a b).objs.size = some _ := p (Heap.get?_push_size _ rfl)
  have q3 : (zq5 s.heap a b).get? (zq2 s.heap a b).objs.size = some _ := p (p (Heap.get?_push_size _ rfl))
  have q2 : (zq5 s.heap a b).get? (zq1 s.heap a).objs.size = some _ := p (p (p (Heap.get?_push_size _ rfl)))
  have q1 : (zq5 s.heap a b).get? s.heap.objs.size = some _ := p (p (p (p (Heap.get?_push_size _ rfl))))
  show _ ∧ _; rw [n2, n3, n4] at q5; rw [n1, n2] at q3; rw [n3] at q4; rw [n1] at q2; rw [n4]
  exact ⟨⟨_, q5, rfl⟩, go _ q5 q3 q4 ⟨_, q1, rfl, rfl⟩ ⟨_, q2, rfl, rfl⟩ fun c o x => p (p (p (p (p x))))⟩
end
/-- the tuple at a and the list at b, of one length, side by side -/
def ItzS (K : PySem.W.Frag) (a b : Addr) : It :=
  ⟨fun i H => ∃ (xs ys : List V), SqT K H a xs ∧ SqL K H b ys ∧ xs.length = ys.length ∧ i < xs.length,
    fun i H v H' => ∃ T x y, v = .ref T ∧ H T = none ∧ H' = upd H T (.tup [x, y]) ∧ (∀ xs, SqT K H a xs → xs[i]? = some x) ∧ ∀ ys, SqL K H b ys → ys[i]? = some y,
    fun i H => ∃ xs ys : List V, SqT K H a xs ∧ SqL K H b ys ∧ xs.length = i ∧ ys.length = i⟩
theorem turn_zs {P : Program} {w : World} {K : PySem.W.Frag} {elts : List Expr} {kk : Nat} {tpos : Pos} {a b z TI TO i1 i2 : Addr} (D : ZipApart z TI TO i1 i2 a b) :
    Turn P w K (.Tuple elts kk tpos) (ItzS K a b) [z, TI, TO, i1, i2] z (fun i h => SZip h z TI TO .none ∧ IsTupOf2 h TI (.ref i1) (.ref i2) ∧ (∃ x y, IsTupOf2 h TO x y) ∧ h.IsTupleIter i1 a i ∧ h.IsListIter i2 b i) := by
  have Sp : ZipSep2 z TI TO i1 i2 [i1, a] [i2, b] := ⟨D.TIz, D.TOz, D.TITO, D.TIi1, by simp, by simp [D.i1z.symm, D.l1z.symm], by simp [D.TOi1, D.l1TO.symm], D.TIi2, by simp, by simp [D.i2z.symm, D.l2z.symm], by simp [D.TOi2, D.l2TO.symm], by simp [D.i12, D.l2i1.symm], by simp [D.i12.symm, D.l1i2.symm]⟩
  refine ⟨by simp, fun i h st c hc => ?_, fun i h h' st k => ?_, ?_, ?_, fun A i s Q E st h => zs_iter st.1 h⟩
  · obtain ⟨hz, hTI, ⟨x, y, hTO⟩, ⟨o1, e1, _, d1⟩, ⟨o2, e2, _, d2⟩⟩ := st
    have e' : c = z ∨ c = TI ∨ c = TO ∨ c = i1 ∨ c = i2 := by simpa using hc
    rcases e' with q | q | q | q | q <;> rw [q]
    · exact ⟨_, hz, fun v q => nomatch q⟩
    · exact ⟨_, hTI, fun v q => nomatch q⟩
    · exact ⟨_, hTO, fun v q => nomatch q⟩
    · exact ⟨o1, e1, fun v q => by rw [d1] at q; cases q⟩
    · exact ⟨o2, e2, fun v q => by rw [d2] at q; cases q⟩
  · obtain ⟨hz, hTI, ⟨x, y, hTO⟩, h1, h2⟩ := st
    have kz := k z (by simp); have kI := k TI (by simp); have kO := k TO (by simp)
    exact ⟨kz _ hz, kI _ hTI, ⟨x, y, kO _ hTO⟩, h1.at fun o q => k i1 (by simp) o q, h2.at fun o q => k i2 (by simp) o q⟩
  · intro X hP hw hK hc i pins s σ H E I hf st hg
    subst hP; subst hw; subst hK
    obtain ⟨hz, hTI, ⟨x0, y0, hTO⟩, h1, h2⟩ := st; obtain ⟨xs, ys, hqx, hqy, hl, hi⟩ := hg
    obtain ⟨its, rv, p, _⟩ := I.tuple hqx; obtain ⟨its2, rv2, p2, _⟩ := I.list hqy
    have l1 := rv.length; have l2 := rv2.length
    have hzl : z < s.heap.objs.size := Heap.lt_size hz
    have hh : X.A.handled = none := I.ok.hd hc
    have Da := Draws.tuple (prog := X.prog) (w := X.w) (A := X.A.in1) (show X.A.in1.handled = none from hh) i1 a D.l1i1 its.toArray
    have Db0 := Draws.list (prog := X.prog) (w := X.w) (A := X.A.in1) (show X.A.in1.handled = none from hh) i2 b D.l2i2 its2.toArray
    have esz : its2.toArray.size = its.toArray.size := by simp; omega
    have Db : Draws X.prog X.w X.A.in1 i2 [i2, b] its.toArray.size (fun j v => its2.toArray[j]? = some v) (fun j h => h.IsListIter i2 b j ∧ h.IsList b its2.toArray) := by rw [← esz]; exact Db0
    have hin : i < its.toArray.size := by simp; omega
    refine zs_pyNext (s := s) hh Sp Da Db hz hTI hTO ⟨h1, p⟩ ⟨h2, p2.isList⟩ (Nat.le_of_lt hin) (fun _ u u2 h' tk px py z' TO' sa' sb' hT hsz hk => ?_) (fun e => absurd e (Nat.ne_of_lt hin))
    have hu : its[i]? = some u := by simpa using px
    have hu2 : its2[i]? = some u2 := by simpa using py
    obtain ⟨x, hx⟩ : ∃ x, xs[i]? = some x := ⟨_, List.getElem?_eq_getElem hi⟩
    obtain ⟨y, hy⟩ : ∃ y, ys[i]? = some y := ⟨_, List.getElem?_eq_getElem (hl ▸ hi)⟩
    obtain ⟨u', hu', ru⟩ := rv.get hx; obtain ⟨u2', hu2', ru2⟩ := rv2.get hy
    rw [hu] at hu'; cases hu'; rw [hu2] at hu2'; cases hu2'
    refine ⟨_, rfl, zs_go (s := { s with heap := h', toks := tk }) z' fun h'' z'' sb => ?_⟩
    have hT2 : h''.get? s.heap.objs.size = some { cls := .type "tuple", data := .seq #[u, u2] } := (sb.2 _ (Nat.ne_of_gt hzl)).trans hT
    have new : ObjOk X.prog X.w (upd H s.heap.objs.size (.tup [x, y])) h'' s.heap.objs.size (.tup [x, y]) := ⟨by show 2 ≤ sizeLine; decide, [u, u2], .cons ru (.cons ru2 .nil), ⟨_, hT2, rfl, _, rfl⟩⟩
    have I1 : Inv X pins σ (upd H s.heap.objs.size (.tup [x, y])) { s with heap := h'', toks := tk } :=
      I.turnedNew (t' := tk) (ch := [z, TI, TO, i1, i2]) (fun c o hb q => (sb.2 c (fun q' => hb (by simp [q']))).trans (hk c o (fun q' => hb (by simp [q'])) (fun q' => hb (by simp [q'])) (fun q' => hb (by simp [q'])) (fun q' => hb (by simp [q'])) q)) hf (Nat.le_refl _) new
    refine ⟨.ref s.heap.objs.size, _, I1, rfl, ⟨_, x, y, rfl, I.hok.fresh (Nat.le_refl _), rfl, fun l hl => by rw [I.tuple_inj hl hqx]; exact hx, fun l hl => by rw [I.list_inj hl hqy]; exact hy⟩, ⟨z'', (sb.2 _ D.TIz).trans (hk _ _ D.TIz D.TITO D.TIi1 D.TIi2 hTI), ⟨u, u2, (sb.2 _ D.TOz).trans TO'⟩, sa'.1.at fun o q => (sb.2 _ D.i1z).trans q, sb'.1.at fun o q => (sb.2 _ D.i2z).trans q⟩, fun c hcm => ?_⟩
    have hlt : c < s.heap.objs.size := by
      have e' : c = z ∨ c = TI ∨ c = TO ∨ c = i1 ∨ c = i2 := by simpa using hcm
      rcases e' with q | q | q | q | q <;> rw [q]
      · exact hzl
      · exact Heap.lt_size hTI
      · exact Heap.lt_size hTO
      · obtain ⟨_, e1, _⟩ := h1; exact Heap.lt_size e1
      · obtain ⟨_, e2, _⟩ := h2; exact Heap.lt_size e2
    rw [upd_ne (Nat.ne_of_lt hlt)]; exact (hf c hcm).1
  · intro X hP hw hK hc i pins s σ H E I hf st hg
    subst hP; subst hw; subst hK
    obtain ⟨hz, hTI, ⟨x0, y0, hTO⟩, h1, h2⟩ := st; obtain ⟨xs, ys, hqx, hqy, hl, hl2⟩ := hg
    obtain ⟨its, rv, p, _⟩ := I.tuple hqx; obtain ⟨its2, rv2, p2, _⟩ := I.list hqy
    have l1 := rv.length; have l2 := rv2.length
    have hh : X.A.handled = none := I.ok.hd hc
    have Da := Draws.tuple (prog := X.prog) (w := X.w) (A := X.A.in1) (show X.A.in1.handled = none from hh) i1 a D.l1i1 its.toArray
    have Db0 := Draws.list (prog := X.prog) (w := X.w) (A := X.A.in1) (show X.A.in1.handled = none from hh) i2 b D.l2i2 its2.toArray
    have esz : its2.toArray.size = its.toArray.size := by simp; omega
    have Db : Draws X.prog X.w X.A.in1 i2 [i2, b] its.toArray.size (fun j v => its2.toArray[j]? = some v) (fun j h => h.IsListIter i2 b j ∧ h.IsList b its2.toArray) := by rw [← esz]; exact Db0
    have hin : i = its.toArray.size := by simp; omega
    refine zs_pyNext (s := s) hh Sp Da Db hz hTI hTO ⟨h1, p⟩ ⟨h2, p2.isList⟩ (Nat.le_of_eq hin) (fun lt => absurd hin (Nat.ne_of_lt lt)) (fun _ h' tk hk => ⟨rfl, I.turnedL (t' := tk) (ch := [z, TI, TO, i1, i2]) (fun c o hb q => hk c o (fun q' => hb (by simp [q'])) (fun q' => hb (by simp [q'])) (fun q' => hb (by simp [q'])) (fun q' => hb (by simp [q'])) q) hf⟩)
section
variable {M : Model} {A : Around} {E : Value → Shared → Prop} {s : Shared} {env : Env}
theorem tykw {pos : Pos} {T : String} {e : Expr} {rest : List Expr} {kws : List Keyword} {Q : Value → Shared → Prop}
    (h : wpAny M A (spliced (backTo pos (starEach (e :: rest) env))) (fun vs s1 => wpAny M A (evalAll ((backToKw pos (keywordEach kws env)).map (·.2))) (fun ws s2 => wpAny M A (call (.type T) vs (((backToKw pos (keywordEach kws env)).filterMap (·.1)).zip ws)) Q E s2) E s1) E s)
    (he : backTo pos (starEach (e :: rest) env) = (false, eval e env) :: backTo pos (starEach rest env) := by rfl) (hp : (backTo pos (starEach (e :: rest) env)).any (·.1) = false := by rfl)
    (ha : (backToKw pos (keywordEach kws env)).all (·.1.isSome) = true := by rfl) (hk : (backToKw pos (keywordEach kws env)).any (·.1.isNone) = false := by rfl) : wpAny M A (callWith pos (.type T) [] (backTo pos (starEach (e :: rest) env)) (backToKw pos (keywordEach kws env))) Q E s := by
  unfold callWith
  refine wpAny_bind (wpAny_holding (wpAny_mono (Q := fun a s1 => wpAny M A (call (.type T) ([] ++ a.pos) a.kw) Q E s1) ?_ (fun a s1 h1 => wpAny_bind (wpAny_standAt ?_)) fun _ _ z => z))
  · rw [he] at h ⊢; exact evalArgs_kwB ha h
  · simp only [hp, hk, Bool.or_false]; refine wpAny_bind (wpAny_pure ?_)
    exact wpAny_bind (wpAny_mono h1 (fun r s2 hr => wpAny_bind (wpAny_holding (wpAny_point (wpAny_pure hr)))) fun _ _ z => z)
end
def iZipS (K : PySem.W.Frag) (ta tk : TA) : TI := fun σ H R => ta σ H fun vs H1 => tk σ H1 fun zs H2 => zs = [.bl true] ∧ ∃ a b xs ys, vs = [.ref a, .ref b] ∧ SqT K H2 a xs ∧ SqL K H2 b ys ∧ R (ItzS K a b) H2
theorem pi_zs {X : Cx} {e e2 : Expr} {kws : List Keyword} {ta tk : TA} {p pos tpos : Pos} {elts : List Expr} {kk : Nat} (hg : Gl X "zip") (hm : X.mg "zip" = none) (ha : PA X [e, e2] ta) (hk : PK X kws tk)
    (he : backTo pos (starEach [e, e2] X.env) = (false, eval e X.env) :: backTo pos (starEach [e2] X.env) := by rfl) (hp : (backTo pos (starEach [e, e2] X.env)).any (·.1) = false := by rfl)
    (hal : (backToKw pos (keywordEach kws X.env)).all (·.1.isSome) = true := by rfl) (hkn : (backToKw pos (keywordEach kws X.env)).any (·.1.isNone) = false := by rfl) (hks : (backToKw pos (keywordEach kws X.env)).filterMap (·.1) = [("strict" : Str)] := by rfl) :
    PI X (.Tuple elts kk tpos) (.Call (.Name "zip" p) [e, e2] kws pos) (iZipS X.K ta tk) := by
  refine ⟨fun pins s σ H R I h => wpAny_Call_Name_kw (ld_blt I hg hm PyProof.Rows.boot_zip (tykw (thn (ha.run pos pins s σ H _ I h) fun us s1 ⟨vs, H1, I1, r1, q1⟩ => thn (hk.run pos pins s1 σ H1 _ I1 q1) fun ws s2 ⟨zs, H2, I2, r2, q2⟩ => ?_) he hp hal hkn))⟩
  rw [hks]; obtain ⟨ez, a, b, xs, ys, ex, hqx, hqy, q⟩ := q2
  subst ez; subst ex
  cases r2 with
  | cons rb rr => cases rr; cases (show _ = Value.bool true from rb); cases r1 with
    | cons r rr => cases rr with
      | cons r' rr =>
        cases rr; cases r; cases r'
        obtain ⟨its, rv, p1, _⟩ := I2.tuple hqx; obtain ⟨its2, rv2, p2, _⟩ := I2.list hqy
        refine zs_made p1 p2.isList fun g' hz hTI hTO h1 h2 hk' => zs_iter hz ?_
        have I3 : Inv X pins σ H2 { s2 with heap := g' } := I2.kept (t' := s2.toks) hk'
        obtain ⟨o1, ho1, _⟩ := id p1
        refine ⟨s2.heap.objs.size + 4, [s2.heap.objs.size + 4, s2.heap.objs.size + 2, s2.heap.objs.size + 3, s2.heap.objs.size, s2.heap.objs.size + 1], _, _, H2, rfl, I3, turn_zs (PySem.W.ktu_apart s2.heap.objs.size a b (Heap.lt_size ho1) p2.lt), ⟨hz, hTI, ⟨_, _, hTO⟩, h1, h2⟩, fun c hcm => ?_, q⟩
        have hle : s2.heap.objs.size ≤ c := by
          have e' : c = s2.heap.objs.size + 4 ∨ c = s2.heap.objs.size + 2 ∨ c = s2.heap.objs.size + 3 ∨ c = s2.heap.objs.size ∨ c = s2.heap.objs.size + 1 := by simpa using hcm
          rcases e' with z | z | z | z | z <;> rw [z] <;> first | exact Nat.le_add_right _ _ | exact Nat.le_refl _
        exact I2.fpOk hle (I2.hok.fresh hle)
theorem walk_zs {K : PySem.W.Frag} {a b : Addr} {xs ys : List V} (hl : xs.length = ys.length) : Walk (ItzS K a b) xs.length (fun H => SqT K H a xs ∧ SqL K H b ys) (YPair (fun i => xs[i]?) (fun i => ys[i]?)) :=
  ⟨fun i _ hi q => ⟨xs, ys, q.1, q.2, hl, hi⟩, fun _ q => ⟨xs, ys, q.1, q.2, rfl, hl.symm⟩, fun i H v H' _ q ⟨T, x, z, h1, h2, h3, h4, h5⟩ => ⟨T, x, z, h1, h2, h3, h4 xs q.1, h5 ys q.2⟩⟩
theorem k_piZS {X : Cx} (K : PySem.W.Frag) (h : X.K = K) {e e2 : Expr} {kws : List Keyword} {ta tk : TA} {p pos tpos : Pos} {elts : List Expr} {kk : Nat} (hg : Gl X "zip") (hm : X.mg "zip" = none) (ha : PA X [e, e2] ta) (hk : PK X kws tk)
    (he : backTo pos (starEach [e, e2] X.env) = (false, eval e X.env) :: backTo pos (starEach [e2] X.env) := by rfl) (hp : (backTo pos (starEach [e, e2] X.env)).any (·.1) = false := by rfl)
    (hal : (backToKw pos (keywordEach kws X.env)).all (·.1.isSome) = true := by rfl) (hkn : (backToKw pos (keywordEach kws X.env)).any (·.1.isNone) = false := by rfl) (hks : (backToKw pos (keywordEach kws X.env)).filterMap (·.1) = [("strict" : Str)] := by rfl) :
    PI X (.Tuple elts kk tpos) (.Call (.Name "zip" p) [e, e2] kws pos) (iZipS K ta tk) := by subst h; exact pi_zs hg hm ha hk he hp hal hkn hks
end My

namespace My
open PySem PySem.Spec PyProof.Rows L2 Pre
open Sem (wp)
/-! ### zip(xs, ys, strict=True) of two lists -/
abbrev zr1 (h : Heap) (a : Addr) : Heap := h.push { cls := .type "list_iterator", data := .fields #[.ref a, .int 0 0] }
abbrev zr2 (h : Heap) (a b : Addr) : Heap := (zr1 h a).push { cls := .type "list_iterator", data := .fields #[.ref b, .int 0 0] }
abbrev zr3 (h : Heap) (a b : Addr) : Heap := (zr2 h a b).push { cls := .type "tuple", data := .seq #[.ref h.objs.size, .ref (zr1 h a).objs.size] }
abbrev zr4 (h : Heap) (a b : Addr) : Heap := (zr3 h a b).push { cls := .type "tuple", data := .seq #[.none, .none] }
abbrev zr5 (h : Heap) (a b : Addr) : Heap := (zr4 h a b).push { cls := .type "zip", data := .fields #[.none, .bool false, .bool true, .ref (zr2 h a b).objs.size, .ref (zr3 h a b).objs.size] }
theorem zl_new (a b : Addr) (xs ys : Array Value) :
    Meets (Builtin.«zip.__new__» ⟨[.type "zip", .ref a, .ref b], [("strict", .bool true)]⟩) (fun _ R s => s.heap.IsList a xs ∧ s.heap.IsList b ys ∧
      R (.ok (.ret (.ref (zr4 s.heap a b).objs.size))) { s with heap := zr5 s.heap a b }) :=
  .of_wp fun prog w A R s h => by
    obtain ⟨hp, g, d, tk, os⟩ := s; obtain ⟨ha, hb, h⟩ := h; have hsub := sub_zip
    have hA : Heap.IsList (Shared.heap ⟨hp, g, d, tk, os⟩) a xs := ha; have hB : Heap.IsList (Shared.heap ⟨hp.push { cls := .type "list_iterator", data := .fields #[.ref a, .int 0 0] }, g, d, tk, os⟩) b ys := Heap.IsList.push hb _
    wp_walk using wpAny_pyIter_list hA, wpAny_pyIter_list hB
    exact ⟨_, rfl, h⟩
section
variable {prog : Program} {w : World} {A : Around} {E : Value → Shared → Prop} {s : Shared}
theorem zl_made {a b : Addr} {xs ys : Array Value} {Q : Value → Shared → Prop} (ha : s.heap.IsList a xs) (hb : s.heap.IsList b ys)
    (go : ∀ g', SZip g' (s.heap.objs.size + 4) (s.heap.objs.size + 2) (s.heap.objs.size + 3) .none → IsTupOf2 g' (s.heap.objs.size + 2) (.ref s.heap.objs.size) (.ref (s.heap.objs.size + 1)) → IsTupOf2 g' (s.heap.objs.size + 3) .none .none →
      g'.IsListIter s.heap.objs.size a 0 → g'.IsListIter (s.heap.objs.size + 1) b 0 → (∀ c o, s.heap.get? c = some o → g'.get? c = some o) → Q (.ref (s.heap.objs.size + 4)) { s with heap := g' }) :
    wpAny (model prog w) A (call (.type "zip") [.ref a, .ref b] [("strict", .bool true)]) Q E s := by
  refine zs_call (zl_new a b xs ys) ⟨ha, hb, ?_⟩
  have n1 : (zr1 s.heap a).objs.size = s.heap.objs.size + 1 := Heap.size_push ..
  have n2 : (zr2 s.heap a b).objs.size = s.heap.objs.size + 2 := by rw [Heap.size_push, n1]
  have n3 : (zr3 s.heap a b).objs.size = s.heap.objs.size + 3 := by rw [Heap.size_push, n2]
  have n4 : (zr4 s.heap a b).objs.size = s.heap.objs.size + 4 := by rw [Heap.size_push, n3]
  have p : ∀ {h : Heap} {o o' : Obj} {c : Addr}, h.get? c = some o → (h.push o').get? c = some o := fun e => Heap.get?_push_of_some _ e
  have q5 : (zr5 s.heap a b).get? (zr4 s.heap a b).objs.size = some _ := Heap.get?_push_size _ rfl
  have q4 : (zr5 s.heap a b).get? (zr3 s.heap a b).objs.size = some _ := p (Heap.get?_push_size _ rfl)
  have q3 : (zr5 s.heap a b).get? (zr2 s.heap a b).objs.size = some _ := p (p (Heap.get?_push_size _ rfl))
  have q2 : (zr5 s.heap a b).get? (zr1 s.heap a).objs.size = some _ := p (p (p (Heap.get?_push_size _ rfl)))
  have q1 : (zr5 s.heap a b).get? s.heap.objs.size = some _ := p (p (p (p (Heap.get?_push_size _ rfl))))
  show _ ∧ _; rw [n2, n3, n4] at q5; rw [n1, n2] at q3; rw [n3] at q4; rw [n1] at q2; rw [n4]
  exact ⟨⟨_, q5, rfl⟩, go _ q5 q3 q4 ⟨_, q1, rfl, rfl⟩ ⟨_, q2, rfl, rfl⟩ fun c o x => p (p (p (p (p x))))⟩
end
/-- the lists at a and b, of one length, side by side -/
def ItzL (K : PySem.W.Frag) (a b : Addr) : It :=
  ⟨fun i H => ∃ (xs ys : List V), SqL K H a xs ∧ SqL K H b ys ∧ xs.length = ys.length ∧ i < xs.length,
    fun i H v H' => ∃ T x y, v = .ref T ∧ H T = none ∧ H' = upd H T (.tup [x, y]) ∧ (∀ xs, SqL K H a xs → xs[i]? = some x) ∧ ∀ ys, SqL K H b ys → ys[i]? = some y,
    fun i H => ∃ xs ys : List V, SqL K H a xs ∧ SqL K H b ys ∧ xs.length = i ∧ ys.length = i⟩
theorem turn_zl {P : Program} {w : World} {K : PySem.W.Frag} {elts : List Expr} {kk : Nat} {tpos : Pos} {a b z TI TO i1 i2 : Addr} (D : ZipApart z TI TO i1 i2 a b) :
    Turn P w K (.Tuple elts kk tpos) (ItzL K a b) [z, TI, TO, i1, i2] z (fun i h => SZip h z TI TO .none ∧ IsTupOf2 h TI (.ref i1) (.ref i2) ∧ (∃ x y, IsTupOf2 h TO x y) ∧ h.IsListIter i1 a i ∧ h.IsListIter i2 b i) := by
  have Sp : ZipSep2 z TI TO i1 i2 [i1, a] [i2, b] := ⟨D.TIz, D.TOz, D.TITO, D.TIi1, by simp, by simp [D.i1z.symm, D.l1z.symm], by simp [D.TOi1, D.l1TO.symm], D.TIi2, by simp, by simp [D.i2z.symm, D.l2z.symm], by simp [D.TOi2, D.l2TO.symm], by simp [D.i12, D.l2i1.symm], by simp [D.i12.symm, D.l1i2.symm]⟩
  refine ⟨by simp, fun i h st c hc => ?_, fun i h h' st k => ?_, ?_, ?_, fun A i s Q E st h => zs_iter st.1 h⟩
  · obtain ⟨hz, hTI, ⟨x, y, hTO⟩, ⟨o1, e1, _, d1⟩, ⟨o2, e2, _, d2⟩⟩ := st
    have e' : c = z ∨ c = TI ∨ c = TO ∨ c = i1 ∨ c = i2 := by simpa using hc
    rcases e' with q | q | q | q | q <;> rw [q]
    · exact ⟨_, hz, fun v q => nomatch q⟩
    · exact ⟨_, hTI, fun v q => nomatch q⟩
    · exact ⟨_, hTO, fun v q => nomatch q⟩
    · exact ⟨o1, e1, fun v q => by rw [d1] at q; cases q⟩
    · exact ⟨o2, e2, fun v q => by rw [d2] at q; cases q⟩
  · obtain ⟨hz, hTI, ⟨x, y, hTO⟩, h1, h2⟩ := st
    have kz := k z (by simp); have kI := k TI (by simp); have kO := k TO (by simp)
    exact ⟨kz _ hz, kI _ hTI, ⟨x, y, kO _ hTO⟩, h1.at fun o q => k i1 (by simp) o q, h2.at fun o q => k i2 (by simp) o q⟩
  · intro X hP hw hK hc i pins s σ H E I hf st hg
    subst hP; subst hw; subst hK
    obtain ⟨hz, hTI, ⟨x0, y0, hTO⟩, h1, h2⟩ := st; obtain ⟨xs, ys, hqx, hqy, hl, hi⟩ := hg
    obtain ⟨its, rv, p, _⟩ := I.list hqx; obtain ⟨its2, rv2, p2, _⟩ := I.list hqy
    have l1 := rv.length; have l2 := rv2.length
    have hzl : z < s.heap.objs.size := Heap.lt_size hz
    have hh : X.A.handled = none := I.ok.hd hc
    have Da := Draws.list (prog := X.prog) (w := X.w) (A := X.A.in1) (show X.A.in1.handled = none from hh) i1 a D.l1i1 its.toArray
    have Db0 := Draws.list (prog := X.prog) (w := X.w) (A := X.A.in1) (show X.A.in1.handled = none from hh) i2 b D.l2i2 its2.toArray
    have esz : its2.toArray.size = its.toArray.size := by simp; omega
    have Db : Draws X.prog X.w X.A.in1 i2 [i2, b] its.toArray.size (fun j v => its2.toArray[j]? = some v) (fun j h => h.IsListIter i2 b j ∧ h.IsList b its2.toArray) := by rw [← esz]; exact Db0
    have hin : i < its.toArray.size := by simp; omega
    refine zs_pyNext (s := s) hh Sp Da Db hz hTI hTO ⟨h1, p.isList⟩ ⟨h2, p2.isList⟩ (Nat.le_of_lt hin) (fun _ u u2 h' tk px py z' TO' sa' sb' hT hsz hk => ?_) (fun e => absurd e (Nat.ne_of_lt hin))
    have hu : its[i]? = some u := by simpa using px
    have hu2 : its2[i]? = some u2 := by simpa using py
    obtain ⟨x, hx⟩ : ∃ x, xs[i]? = some x := ⟨_, List.getElem?_eq_getElem hi⟩
    obtain ⟨y, hy⟩ : ∃ y, ys[i]? = some y := ⟨_, List.getElem?_eq_getElem (hl ▸ hi)⟩
    obtain ⟨u', hu', ru⟩ := rv.get hx; obtain ⟨u2', hu2', ru2⟩ := rv2.get hy
    rw [hu] at hu'; cases hu'; rw [hu2] at hu2'; cases hu2'
    refine ⟨_, rfl, zs_go (s := { s with heap := h', toks := tk }) z' fun h'' z'' sb => ?_⟩
    have hT2 : h''.get? s.heap.objs.size = some { cls := .type "tuple", data := .seq #[u, u2] } := (sb.2 _ (Nat.ne_of_gt hzl)).trans hT
    have new : ObjOk X.prog X.w (upd H s.heap.objs.size (.tup [x, y])) h'' s.heap.objs.size (.tup [x, y]) := ⟨by show 2 ≤ sizeLine; decide, [u, u2], .cons ru (.cons ru2 .nil), ⟨_, hT2, rfl, _, rfl⟩⟩
    have I1 : Inv X pins σ (upd H s.heap.objs.size (.tup [x, y])) { s with heap := h'', toks := tk } :=
      I.turnedNew (t' := tk) (ch := [z, TI, TO, i1, i2]) (fun c o hb q => (sb.2 c (fun q' => hb (by simp [q']))).trans (hk c o (fun q' => hb (by simp [q'])) (fun q' => hb (by simp [q'])) (fun q' => hb (by simp [q'])) (fun q' => hb (by simp [q'])) q)) hf (Nat.le_refl _) new
    refine ⟨.ref s.heap.objs.size, _, I1, rfl, ⟨_, x, y, rfl, I.hok.fresh (Nat.le_refl _), rfl, fun l hl => by rw [I.list_inj hl hqx]; exact hx, fun l hl => by rw [I.list_inj hl hqy]; exact hy⟩, ⟨z'', (sb.2 _ D.TIz).trans (hk _ _ D.TIz D.TITO D.TIi1 D.TIi2 hTI), ⟨u, u2, (sb.2 _ D.TOz).trans TO'⟩, sa'.1.at fun o q => (sb.2 _ D.i1z).trans q, sb'.1.at fun o q => (sb.2 _ D.i2z).trans q⟩, fun c hcm => ?_⟩
    have hlt : c < s.heap.objs.size := by
      have e' : c = z ∨ c = TI ∨ c = TO ∨ c = i1 ∨ c = i2 := by simpa using hcm
      rcases e' with q | q | q | q | q <;> rw [q]
      · exact hzl
      · exact Heap.lt_size hTI
      · exact Heap.lt_size hTO
      · obtain ⟨_, e1, _⟩ := h1; exact Heap.lt_size e1
      · obtain ⟨_, e2, _⟩ := h2; exact Heap.lt_size e2
    rw [upd_ne (Nat.ne_of_lt hlt)]; exact (hf c hcm).1
  · intro X hP hw hK hc i pins s σ H E I hf st hg
    subst hP; subst hw; subst hK
    obtain ⟨hz, hTI, ⟨x0, y0, hTO⟩, h1, h2⟩ := st; obtain ⟨xs, ys, hqx, hqy, hl, hl2⟩ := hg
    obtain ⟨its, rv, p, _⟩ := I.list hqx; obtain ⟨its2, rv2, p2, _⟩ := I.list hqy
    have l1 := rv.length; have l2 := rv2.length
    have hh : X.A.handled = none := I.ok.hd hc
    have Da := Draws.list (prog := X.prog) (w := X.w) (A := X.A.in1) (show X.A.in1.handled = none from hh) i1 a D.l1i1 its.toArray
    have Db0 := Draws.list (prog := X.prog) (w := X.w) (A := X.A.in1) (show X.A.in1.handled = none from hh) i2 b D.l2i2 its2.toArray
    have esz : its2.toArray.size = its.toArray.size := by simp; omega
    have Db : Draws X.prog X.w X.A.in1 i2 [i2, b] its.toArray.size (fun j v => its2.toArray[j]? = some v) (fun j h => h.IsListIter i2 b j ∧ h.IsList b its2.toArray) := by rw [← esz]; exact Db0
    have hin : i = its.toArray.size := by simp; omega
    refine zs_pyNext (s := s) hh Sp Da Db hz hTI hTO ⟨h1, p.isList⟩ ⟨h2, p2.isList⟩ (Nat.le_of_eq hin) (fun lt => absurd hin (Nat.ne_of_lt lt)) (fun _ h' tk hk => ⟨rfl, I.turnedL (t' := tk) (ch := [z, TI, TO, i1, i2]) (fun c o hb q => hk c o (fun q' => hb (by simp [q'])) (fun q' => hb (by simp [q'])) (fun q' => hb (by simp [q'])) (fun q' => hb (by simp [q'])) q) hf⟩)
def iZipL (K : PySem.W.Frag) (ta tk : TA) : TI := fun σ H R => ta σ H fun vs H1 => tk σ H1 fun zs H2 => zs = [.bl true] ∧ ∃ a b xs ys, vs = [.ref a, .ref b] ∧ SqL K H2 a xs ∧ SqL K H2 b ys ∧ R (ItzL K a b) H2
theorem pi_zl {X : Cx} {e e2 : Expr} {kws : List Keyword} {ta tk : TA} {p pos tpos : Pos} {elts : List Expr} {kk : Nat} (hg : Gl X "zip") (hm : X.mg "zip" = none) (ha : PA X [e, e2] ta) (hk : PK X kws tk)
    (he : backTo pos (starEach [e, e2] X.env) = (false, eval e X.env) :: backTo pos (starEach [e2] X.env) := by rfl) (hp : (backTo pos (starEach [e, e2] X.env)).any (·.1) = false := by rfl)
    (hal : (backToKw pos (keywordEach kws X.env)).all (·.1.isSome) = true := by rfl) (hkn : (backToKw pos (keywordEach kws X.env)).any (·.1.isNone) = false := by rfl) (hks : (backToKw pos (keywordEach kws X.env)).filterMap (·.1) = [("strict" : Str)] := by rfl) :
    PI X (.Tuple elts kk tpos) (.Call (.Name "zip" p) [e, e2] kws pos) (iZipL X.K ta tk) := by
  refine ⟨fun pins s σ H R I h => wpAny_Call_Name_kw (ld_blt I hg hm PyProof.Rows.boot_zip (tykw (thn (ha.run pos pins s σ H _ I h) fun us s1 ⟨vs, H1, I1, r1, q1⟩ => thn (hk.run pos pins s1 σ H1 _ I1 q1) fun ws s2 ⟨zs, H2, I2, r2, q2⟩ => ?_) he hp hal hkn))⟩
  rw [hks]; obtain ⟨ez, a, b, xs, ys, ex, hqx, hqy, q⟩ := q2
  subst ez; subst ex
  cases r2 with
  | cons rb rr => cases rr; cases (show _ = Value.bool true from rb); cases r1 with
    | cons r rr => cases rr with
      | cons r' rr =>
        cases rr; cases r; cases r'
        obtain ⟨its, rv, p1, _⟩ := I2.list hqx; obtain ⟨its2, rv2, p2, _⟩ := I2.list hqy
        refine zl_made p1.isList p2.isList fun g' hz hTI hTO h1 h2 hk' => zs_iter hz ?_
        have I3 : Inv X pins σ H2 { s2 with heap := g' } := I2.kept (t' := s2.toks) hk'

        refine ⟨s2.heap.objs.size + 4, [s2.heap.objs.size + 4, s2.heap.objs.size + 2, s2.heap.objs.size + 3, s2.heap.objs.size, s2.heap.objs.size + 1], _, _, H2, rfl, I3, turn_zl (PySem.W.ktu_apart s2.heap.objs.size a b p1.lt p2.lt), ⟨hz, hTI, ⟨_, _, hTO⟩, h1, h2⟩, fun c hcm => ?_, q⟩
        have hle : s2.heap.objs.size ≤ c := by
          have e' : c = s2.heap.objs.size + 4 ∨ c = s2.heap.objs.size + 2 ∨ c = s2.heap.objs.size + 3 ∨ c = s2.heap.objs.size ∨ c = s2.heap.objs.size + 1 := by simpa using hcm
          rcases e' with z | z | z | z | z <;> rw [z] <;> first | exact Nat.le_add_right _ _ | exact Nat.le_refl _
        exact I2.fpOk hle (I2.hok.fresh hle)
theorem walk_zl {K : PySem.W.Frag} {a b : Addr} {xs ys : List V} (hl : xs.length = ys.length) : Walk (ItzL K a b) xs.length (fun H => SqL K H a xs ∧ SqL K H b ys) (YPair (fun i => xs[i]?) (fun i => ys[i]?)) :=
  ⟨fun i _ hi q => ⟨xs, ys, q.1, q.2, hl, hi⟩, fun _ q => ⟨xs, ys, q.1, q.2, rfl, hl.symm⟩, fun i H v H' _ q ⟨T, x, z, h1, h2, h3, h4, h5⟩ => ⟨T, x, z, h1, h2, h3, h4 xs q.1, h5 ys q.2⟩⟩
theorem k_piZL {X : Cx} (K : PySem.W.Frag) (h : X.K = K) {e e2 : Expr} {kws : List Keyword} {ta tk : TA} {p pos tpos : Pos} {elts : List Expr} {kk : Nat} (hg : Gl X "zip") (hm : X.mg "zip" = none) (ha : PA X [e, e2] ta) (hk : PK X kws tk)
    (he : backTo pos (starEach [e, e2] X.env) = (false, eval e X.env) :: backTo pos (starEach [e2] X.env) := by rfl) (hp : (backTo pos (starEach [e, e2] X.env)).any (·.1) = false := by rfl)
    (hal : (backToKw pos (keywordEach kws X.env)).all (·.1.isSome) = true := by rfl) (hkn : (backToKw pos (keywordEach kws X.env)).any (·.1.isNone) = false := by rfl) (hks : (backToKw pos (keywordEach kws X.env)).filterMap (·.1) = [("strict" : Str)] := by rfl) :
    PI X (.Tuple elts kk tpos) (.Call (.Name "zip" p) [e, e2] kws pos) (iZipL K ta tk) := by subst h; exact pi_zl hg hm ha hk he hp hal hkn hks
end My

namespace My
open PySem PySem.Spec PyProof.Rows PySem.W L2 Pre
/-- zip, strict, of a tuple or a list with a list -/
def iZipB (K : PySem.W.Frag) (ta tk : TA) : TI := fun σ H R => ta σ H fun vs H1 => tk σ H1 fun zs H2 => zs = [.bl true] ∧ ∃ a b xs ys, vs = [.ref a, .ref b] ∧ SqL K H2 b ys ∧ ((SqT K H2 a xs ∧ R (ItzS K a b) H2) ∨ (SqL K H2 a xs ∧ R (ItzL K a b) H2))
theorem pi_zb {X : Cx} {e e2 : Expr} {kws : List Keyword} {ta tk : TA} {p pos tpos : Pos} {elts : List Expr} {kk : Nat} (hg : Gl X "zip") (hm : X.mg "zip" = none) (ha : PA X [e, e2] ta) (hk : PK X kws tk)
    (he : backTo pos (starEach [e, e2] X.env) = (false, eval e X.env) :: backTo pos (starEach [e2] X.env) := by rfl) (hp : (backTo pos (starEach [e, e2] X.env)).any (·.1) = false := by rfl)
    (hal : (backToKw pos (keywordEach kws X.env)).all (·.1.isSome) = true := by rfl) (hkn : (backToKw pos (keywordEach kws X.env)).any (·.1.isNone) = false := by rfl) (hks : (backToKw pos (keywordEach kws X.env)).filterMap (·.1) = [("strict" : Str)] := by rfl) :
    PI X (.Tuple elts kk tpos) (.Call (.Name "zip" p) [e, e2] kws pos) (iZipB X.K ta tk) := by
  refine ⟨fun pins s σ H R I h => wpAny_Call_Name_kw (ld_blt I hg hm PyProof.Rows.boot_zip (tykw (thn (ha.run pos pins s σ H _ I h) fun us s1 ⟨vs, H1, I1, r1, q1⟩ => thn (hk.run pos pins s1 σ H1 _ I1 q1) fun ws s2 ⟨zs, H2, I2, r2, q2⟩ => ?_) he hp hal hkn))⟩
  rw [hks]; obtain ⟨ez, a, b, xs, ys, ex, hqy, hqq⟩ := q2
  subst ez; subst ex
  cases r2 with
  | cons rb rr => cases rr; cases (show _ = Value.bool true from rb); cases r1 with
    | cons r rr => cases rr with
      | cons r' rr =>
        cases rr; cases r; cases r'
        rcases hqq with ⟨hqx, q⟩ | ⟨hqx, q⟩
        · skip
          obtain ⟨its, rv, p1, _⟩ := I2.tuple hqx; obtain ⟨its2, rv2, p2, _⟩ := I2.list hqy
          refine zs_made p1 p2.isList fun g' hz hTI hTO h1 h2 hk' => zs_iter hz ?_
          have I3 : Inv X pins σ H2 { s2 with heap := g' } := I2.kept (t' := s2.toks) hk'
          obtain ⟨o1, ho1, _⟩ := id p1
          refine ⟨s2.heap.objs.size + 4, [s2.heap.objs.size + 4, s2.heap.objs.size + 2, s2.heap.objs.size + 3, s2.heap.objs.size, s2.heap.objs.size + 1], _, _, H2, rfl, I3, turn_zs (PySem.W.ktu_apart s2.heap.objs.size a b (Heap.lt_size ho1) p2.lt), ⟨hz, hTI, ⟨_, _, hTO⟩, h1, h2⟩, fun c hcm => ?_, q⟩
          have hle : s2.heap.objs.size ≤ c := by
            have e' : c = s2.heap.objs.size + 4 ∨ c = s2.heap.objs.size + 2 ∨ c = s2.heap.objs.size + 3 ∨ c = s2.heap.objs.size ∨ c = s2.heap.objs.size + 1 := by simpa using hcm
            rcases e' with z | z | z | z | z <;> rw [z] <;> first | exact Nat.le_add_right _ _ | exact Nat.le_refl _
          exact I2.fpOk hle (I2.hok.fresh hle)
        · skip
          obtain ⟨its, rv, p1, _⟩ := I2.list hqx; obtain ⟨its2, rv2, p2, _⟩ := I2.list hqy
          refine zl_made p1.isList p2.isList fun g' hz hTI hTO h1 h2 hk' => zs_iter hz ?_
          have I3 : Inv X pins σ H2 { s2 with heap := g' } := I2.kept (t' := s2.toks) hk'

          refine ⟨s2.heap.objs.size + 4, [s2.heap.objs.size + 4, s2.heap.objs.size + 2, s2.heap.objs.size + 3, s2.heap.objs.size, s2.heap.objs.size + 1], _, _, H2, rfl, I3, turn_zl (PySem.W.ktu_apart s2.heap.objs.size a b p1.lt p2.lt), ⟨hz, hTI, ⟨_, _, hTO⟩, h1, h2⟩, fun c hcm => ?_, q⟩
          have hle : s2.heap.objs.size ≤ c := by
            have e' : c = s2.heap.objs.size + 4 ∨ c = s2.heap.objs.size + 2 ∨ c = s2.heap.objs.size + 3 ∨ c = s2.heap.objs.size ∨ c = s2.heap.objs.size + 1 := by simpa using hcm
            rcases e' with z | z | z | z | z <;> rw [z] <;> first | exact Nat.le_add_right _ _ | exact Nat.le_refl _
          exact I2.fpOk hle (I2.hok.fresh hle)
theorem k_piZB {X : Cx} (K : PySem.W.Frag) (h : X.K = K) {e e2 : Expr} {kws : List Keyword} {ta tk : TA} {p pos tpos : Pos} {elts : List Expr} {kk : Nat} (hg : Gl X "zip") (hm : X.mg "zip" = none) (ha : PA X [e, e2] ta) (hk : PK X kws tk)
    (he : backTo pos (starEach [e, e2] X.env) = (false, eval e X.env) :: backTo pos (starEach [e2] X.env) := by rfl) (hp : (backTo pos (starEach [e, e2] X.env)).any (·.1) = false := by rfl)
    (hal : (backToKw pos (keywordEach kws X.env)).all (·.1.isSome) = true := by rfl) (hkn : (backToKw pos (keywordEach kws X.env)).any (·.1.isNone) = false := by rfl) (hks : (backToKw pos (keywordEach kws X.env)).filterMap (·.1) = [("strict" : Str)] := by rfl) :
    PI X (.Tuple elts kk tpos) (.Call (.Name "zip" p) [e, e2] kws pos) (iZipB K ta tk) := by subst h; exact pi_zb hg hm ha hk he hp hal hkn hks
end My

namespace My
open PySem PySem.Spec PyProof.Rows L2 Pre
/-! ### whole numbers, and what is none -/
/-- what is no whole number -/
def BadN (K : PySem.W.Frag) (H : Hp) (v : V) : Prop := (∃ b : Bool, v = .bl b) ∨ ∃ T : String, TyX K H v (.type T) ∧ kitB T "int" = some false
def NumV (K : PySem.W.Frag) (H : Hp) (v : V) (lo : Int) (hi : Option Int) (b : Bool) : Prop := (∃ i : Int, v = .int i ∧ b = decide (lo ≤ i ∧ ∀ j, hi = some j → i ≤ j)) ∨ (BadN K H v ∧ b = false)
theorem BadN.same {K : PySem.W.Frag} {H H' : Hp} {v : V} (s : Same H H') (h : BadN K H v) : BadN K H' v := by
  rcases h with h | ⟨T, ty, e⟩
  · exact .inl h
  · exact .inr ⟨T, ty.same s, e⟩
theorem NumV.same {K : PySem.W.Frag} {H H' : Hp} {v : V} {lo : Int} {hi : Option Int} {b : Bool} (s : Same H H') (h : NumV K H v lo hi b) : NumV K H' v lo hi b := by
  rcases h with h | ⟨h, e⟩
  · exact .inl h
  · exact .inr ⟨h.same s, e⟩
/-- a bound: a number or None -/
def hiV : Option Int → V
  | some j => .int j
  | none => .non
local macro_rules | `(tactic| walk_at "go") => `(tactic| repeat (first | (with_reducible first | refine iteT ?_ | refine iteF ?_ | refine iteNtt ?_ | refine iteNff ?_ | refine iteET (by omega) ?_ | refine iteEF (by omega) ?_ | refine iteENT (by omega) ?_ | refine iteENF (by omega) ?_ | refine iteDT (by omega) ?_ | refine iteDF (by omega) ?_ | refine iteNT (by omega) ?_ | refine iteNF (by omega) ?_) | refine ⟨_, rfl, ?_⟩ | refine ⟨_, _, rfl, rfl, ?_⟩ | refine ⟨_, _, rfl, ?_⟩ | refine ⟨rfl, ?_⟩ | refine .inl ⟨_, rfl, ?_⟩ | refine .inr ⟨_, rfl, ?_⟩))
local macro_rules | `(tactic| walk_at "b") => `(tactic| try dsimp (config := { proj := false, iota := false, eta := false, zeta := false }) only)
section
variable {P : Program} {w : World} {K : PySem.W.Frag} {mg : Str → Option Value} {base : Heap} [pf : Sup.PF P fileS]
def sp_is_whole (K : PySem.W.Frag) : Sp := fun vs H Q _ => ∃ v : V, vs = [v] ∧ ((∃ i : Int, v = .int i ∧ Q (.bl true) H) ∨ (BadN K H v ∧ Q (.bl false) H))
theorem G_is_whole (T : Top K mg) : FnOk P w K mg base CX0 1 T.f_is_whole T.fd_is_whole ["value"] (sp_is_whole K) := by
  refine T.F_is_whole.ok sc_is_whole (fun vs H Q E h => by obtain ⟨v, rfl, _⟩ := h; rfl) (fun cdv A outer s H vs Q E hr h => ?_)
  obtain ⟨v, rfl, h⟩ := h
  refine ⟨_, PSs.nox (pss_one (ps_ret (pe_and (pe_callB (k_isi K rfl) (by rfl) T.n_isinstance (by decide +kernel) (pa_cons (pv 0) (pa_cons (pe_bltn (v := .ty "int") (by rfl) T.n_int (by decide +kernel) rfl) pa_nil))) (pe_one (pe_not (pe_callB (k_isi K rfl) (by rfl) T.n_isinstance (by decide +kernel) (pa_cons (pv 0) (pa_cons (pe_bltn (v := .ty "bool") (by rfl) T.n_bool (by decide +kernel) rfl) pa_nil)))))))), ?_⟩
  rcases h with ⟨i, rfl, q⟩ | ⟨⟨b, rfl⟩ | ⟨T, ty, hT⟩, q⟩
  · refine ⟨_, rfl, _, _, _, _, true, rfl, .ty _, .base (.int i), kit_ty (by decide +kernel), true, rfl, iteT ?_⟩
    exact ⟨_, rfl, _, _, _, _, false, rfl, .ty _, .base (.int i), kit_ty (by decide +kernel), false, rfl, q⟩
  · refine ⟨_, rfl, _, _, _, _, true, rfl, .ty _, .base (.bl b), kit_ty (by decide +kernel), true, rfl, iteT ?_⟩
    exact ⟨_, rfl, _, _, _, _, true, rfl, .ty _, .base (.bl b), kit_ty (by decide +kernel), true, rfl, q⟩
  · exact ⟨_, rfl, _, _, _, _, false, rfl, .ty _, ty, kit_ty hT, false, rfl, iteF q⟩
def sp_is_between (K : PySem.W.Frag) : Sp := fun vs H Q _ => ∃ (v : V) (lo : Int) (hi : Option Int) (b : Bool), vs = [v, .int lo, hiV hi] ∧ NumV K H v lo hi b ∧ Q (.bl b) H
theorem G_is_between (T : Top K mg) : FnOk P w K mg base CX0 2 T.f_is_between T.fd_is_between ["value", "low", "high"] (sp_is_between K) := by
  refine T.F_is_between.ok sc_is_between (fun vs H Q E h => by obtain ⟨v, lo, hi, b, rfl, _⟩ := h; rfl) (fun cdv A outer s H vs Q E hr h => ?_)
  obtain ⟨v, lo, hi, b, rfl, hv, q⟩ := h
  refine ⟨_, PSs.nox (pss_one (ps_ret (pe_and (pe_call (G_is_whole (P := P) T) (hr.mono (by decide)) (by rfl) T.g_is_whole T.F_is_whole.kp T.b_is_whole .nil pass0 (pa_cons (pv 0) pa_nil)) (pe_and (pe_cmpR op_le (pv 1) (pv 0) (nomark _)) (pe_one (pe_or (pe_cmpR op_isN (pv 2) pe_non (nomark _)) (pe_one (pe_cmpR op_le (pv 0) (pv 2) (nomark _))))))))), ?_⟩
  rcases hv with ⟨i, rfl, rfl⟩ | ⟨hv, rfl⟩
  · refine ⟨_, rfl, _, rfl, .inl ⟨i, rfl, true, rfl, iteT ?_⟩⟩
    refine ⟨_, rfl, _, rfl, _, _, rfl, rfl, _, rfl, ite2 (fun e => ?_) (fun e => ?_)⟩
    · have e1 : lo ≤ i := of_decide_eq_true e
      cases hi with
      | none =>
        refine ⟨_, rfl, rfl, _, rfl, iteT ?_⟩
        rw [decide_eq_true ⟨e1, fun j h => nomatch h⟩] at q
        exact q
      | some j =>
        refine ⟨_, rfl, rfl, _, rfl, iteF ⟨_, rfl, _, rfl, _, _, rfl, rfl, ?_⟩⟩
        have e2 : decide (lo ≤ i ∧ ∀ j', some j = some j' → i ≤ j') = decide (i ≤ j) := by
          by_cases h : i ≤ j
          · rw [decide_eq_true h, decide_eq_true]
            exact ⟨e1, fun j' e => by cases e; exact h⟩
          · rw [decide_eq_false h, decide_eq_false]
            exact fun z => h (z.2 j rfl)
        rw [e2] at q
        exact q
    · have e1 : ¬ lo ≤ i := fun h => e (decide_eq_true h)
      rw [decide_eq_false fun z => e1 z.1] at q
      exact q
  · exact ⟨_, rfl, _, rfl, .inr ⟨hv, false, rfl, iteF q⟩⟩
def sp_check_number (K : PySem.W.Frag) (C : Addr) : Sp := fun vs H Q E => ∃ (v : V) (lo : Int) (hi : Option Int) (b : Bool), vs = [v, .int lo, hiV hi] ∧ NumV K H v lo hi b ∧ (b = true → Q .non H) ∧ (b = false → ∀ d, H d = none → E (.ref C) (some d) (upd H d (.xd [("value", v)])))
theorem G_check_number (T : Top K mg) : FnOk P w K mg base (L2.CX P w) 3 T.f_check_number T.fd_check_number ["number", "low", "high"] (sp_check_number K T.C_InvalidNumber) := by
  refine T.F_check_number.ok (CX := L2.CX P w) sc_check_number (fun vs H Q E h => by obtain ⟨v, lo, hi, b, rfl, _⟩ := h; rfl) (fun cdv A outer s H vs Q E hr h => ?_)
  obtain ⟨v, lo, hi, b, rfl, hv, q1, q2⟩ := h
  refine ⟨_, (pss_one (ps_if (pt_not (pt_val (pe_call (G_is_between (P := P) T) (hr.mono (by decide)) (by rfl) T.g_is_between T.F_is_between.kp T.b_is_between .nil pass0 (pa_cons (pv 0) (pa_cons (pv 1) (pa_cons (pv 2) pa_nil))))))
    (pss_one (ps_raise rfl (takes_of rfl rfl rfl rfl) (pmk_oex T.er_InvalidNumber.sup.T T.er_InvalidNumber.ini T.er_InvalidNumber.ity (G_InvalidNumber___init__ (P := P) (CX := CX0) T) (hr.mono (by decide)) T.er_InvalidNumber.bnd .nil pass0 (by rfl) T.gc_InvalidNumber (pa_cons (pv 0) pa_nil))))
    pss_nil)), ?_⟩
  refine ⟨_, rfl, _, rfl, _, rfl, v, lo, hi, b, rfl, hv, _, rfl, ?_⟩
  cases b with
  | true => exact iteF (q1 rfl)
  | false => exact iteT ⟨_, rfl, mk_sup fun d nd => q2 rfl d nd⟩
end
end My

namespace My
open PySem PySem.Spec PyProof.Rows L2 Pre
/-! ### how rows without a mark grow, in a program -/
theorem NumV.nat {K : PySem.W.Frag} {H : Hp} {n : Nat} {hi : Int} (h : (n : Int) ≤ hi) : NumV K H (.int n) 0 (some hi) true :=
  .inl ⟨n, rfl, (decide_eq_true ⟨Int.natCast_nonneg n, fun j e => by cases e; exact h⟩).symm⟩
/-- a mark and a number asked of -/
def MN (K : PySem.W.Frag) (H : Hp) (hi : Int) (C B : Addr) (v u : V) (E : XK) (ok : List Bool → Bool → Nat → Prop) : Prop :=
  (∃ (A : List Bool) (z : Bool), v = .str (bS (A ++ [z])) ∧ 1 ≤ A.length ∧ A.length ≤ 15 ∧ Keep A z ∧
    ((∃ n : Nat, u = .int n ∧ (n : Int) ≤ hi ∧ ok A z n) ∨ (NumV K H u 0 (some hi) false ∧ ∀ H' d, Same H H' → H' d = none → E (.ref B) (some d) (upd H' d (.xd [("value", u)]))))) ∨
  (BadM K H v ∧ ∀ H' d, Same H H' → H' d = none → E (.ref C) (some d) (upd H' d (.xd [("value", v)])))
local macro_rules | `(tactic| walk_at "go") => `(tactic| repeat (first | (with_reducible first | refine iteT ?_ | refine iteF ?_ | refine iteNtt ?_ | refine iteNff ?_ | refine iteET (by omega) ?_ | refine iteEF (by omega) ?_ | refine iteENT (by omega) ?_ | refine iteENF (by omega) ?_ | refine iteDT (by omega) ?_ | refine iteDF (by omega) ?_ | refine iteNT (by omega) ?_ | refine iteNF (by omega) ?_) | refine ⟨_, rfl, ?_⟩ | refine ⟨_, _, rfl, rfl, ?_⟩ | refine ⟨_, _, rfl, ?_⟩ | refine ⟨rfl, ?_⟩ | refine .inl ⟨_, rfl, ?_⟩ | refine .inr ⟨_, rfl, ?_⟩))
local macro_rules | `(tactic| walk_at "b") => `(tactic| try dsimp (config := { proj := false, iota := false, eta := false, zeta := false }) only)
section
variable {P : Program} {w : World} {K : PySem.W.Frag} {mg : Str → Option Value} {base : Heap} [pf : Sup.PF P fileS]
def sp_state_after : Sp := fun vs H Q _ => ∃ (A : List Bool) (z : Bool) (s : Nat) (b : Bool), vs = [.str (bS (A ++ [z])), .int s, .str (bS [b])] ∧ A.length ≤ 15 ∧ s ≤ A.length ∧ Q (.int (lb (A ++ [z]) ((A ++ [z]).take s ++ [b]))) H
theorem G_state_after (T : Top K mg) : FnOk P w K mg base CX0 1 T.f_state_after T.fd_state_after ["mark", "state", "bit"] sp_state_after := by
  refine T.F_state_after.ok sc_state_after (fun vs H Q E h => by obtain ⟨A, z, s, b, rfl, _⟩ := h; rfl) (fun cdv A outer s H vs Q E hr h => ?_)
  obtain ⟨A, z, s, b, rfl, hz, hs, q⟩ := h
  refine ⟨_, PSs.nox (pss_cons (ps_set (i := 3) sc_state_after.nd rfl (by first | exact Or.inl rfl | exact Or.inr rfl) (pe_op op_add_str (pe_slice sl_str (pv 0) po_none (po_some (pv 1))) (pv 2)))
  (pss_cons (ps_for PassesOwn.never rfl (pi_range3 (by rfl) T.n_range (pa_cons (pe_callB call_len_str (by rfl) T.n_len (by decide +kernel) (pa_cons (pv 3) pa_nil)) (pa_cons pe_int (pa_cons (pe_un un_neg pe_int) pa_nil)))) (pg_name (i := 4) sc_state_after.nd rfl (by first | exact Or.inl rfl | exact Or.inr rfl))
    (pss_one (ps_if (pt_cmpR op_eq (pe_slice sl_str (pv 3) (po_some (pe_op op_sub (pe_callB call_len_str (by rfl) T.n_len (by decide +kernel) (pa_cons (pv 3) pa_nil)) (pv 4))) po_none) (pe_slice sl_str (pv 0) po_none (po_some (pv 4))) (nomark _))
    (pss_one (ps_ret (pv 4)))
    pss_nil)))
  (pss_one (ps_ret pe_int)))), ?_⟩
  have hl : (bS (A ++ [z])).length = A.length + 1 := by rw [bS_len, List.length_append, List.length_singleton]
  refine ⟨_, rfl, _, rfl, _, rfl, _, rfl, by rw [hl, sizeLine_eq]; omega, ?_⟩
  rw [cut_bSt]
  refine ⟨_, rfl, _, _, rfl, rfl, by rw [bS_len, bS_len, List.length_take, List.length_singleton, sizeLine_eq]; omega, ?_⟩
  rw [bS_app]
  have hW : ((A ++ [z]).take s ++ [b]).length = s + 1 := by rw [List.length_append, List.length_take, List.length_append, List.length_singleton, List.length_singleton]; omega
  unfold lb at q
  generalize (A ++ [z]).take s ++ [b] = W at *
  refine ⟨_, rfl, _, rfl, by rw [bS_len, sizeLine_eq]; omega, ?_⟩
  rw [bS_len, hW]
  rw [hW] at q
  refine ⟨_, rfl, _, _, _, _, rfl, RgC.neg (by omega) (by omega) (by omega) (by omega), ?_⟩
  rw [show (((s + 1 : Nat) : Int) - 0).toNat = s + 1 by omega]
  refine for_rangeC (lo := ((s + 1 : Nat) : Int)) (c := -1) (n := s + 1) (fun i σ H1 => ∃ v4 : Option V, σ = [some (.str (bS (A ++ [z]))), some (.int s), some (.str (bS [b])), some (.str (bS W)), v4] ∧ H1 = H ∧ lbG (A ++ [z]) W (s + 1) = lbG (A ++ [z]) W (s + 1 - i)) ⟨none, rfl, rfl, rfl⟩ ?_ ?_
  · rintro i σ H1 hi ⟨v4, rfl, rfl, e⟩
    rw [show ((s + 1 : Nat) : Int) + (i : Nat) * (-1) = ((s - i + 1 : Nat) : Int) by omega]
    refine ⟨_, rfl, _, rfl, _, rfl, by rw [bS_len, hW, sizeLine_eq]; omega, _, rfl, _, _, rfl, rfl, _, rfl, _, rfl, by rw [bS_len, hW, sizeLine_eq]; omega, ?_⟩
    dsimp only
    rw [bS_len, hW, show (((s + 1 : Nat) : Int) - ((s - i + 1 : Nat) : Int)) = ((s + 1 - (s - i + 1) : Nat) : Int) by omega, cut_bSd]
    refine ⟨_, rfl, _, rfl, _, rfl, _, rfl, by rw [hl, sizeLine_eq]; omega, ?_⟩
    rw [cut_bSt]
    refine ⟨rfl, _, rfl, ?_⟩
    rw [dec_bS]
    rw [show s + 1 - i = s - i + 1 by omega] at e
    by_cases h : W.drop (s + 1 - (s - i + 1)) = (A ++ [z]).take (s - i + 1)
    · refine iteDT h ?_
      have e2 : lbG (A ++ [z]) W (s - i + 1) = s - i + 1 := by
        unfold lbG
        rw [hW, if_pos h]
      rw [e, e2] at q
      exact ⟨_, rfl, q⟩
    · refine iteDF h ?_
      have e2 : lbG (A ++ [z]) W (s - i + 1) = lbG (A ++ [z]) W (s - i) := by
        conv => lhs; unfold lbG
        rw [hW, if_neg h]
      exact ⟨_, rfl, rfl, by rw [e, e2, show s + 1 - (i + 1) = s - i by omega]⟩
  · rintro σ H1 ⟨v4, rfl, rfl, e⟩
    rw [e, Nat.sub_self] at q
    exact q
def sp_state_behind : Sp := fun vs H Q _ => ∃ (A : List Bool) (z : Bool), vs = [.str (bS (A ++ [z]))] ∧ A.length ≤ 15 ∧ Q (.int (beh A z)) H
def sp_most_growth (K : PySem.W.Frag) (C B : Addr) : Sp := fun vs H Q E => ∃ v u : V, vs = [v, u] ∧ MN K H (10 ^ 18) C B v u E fun A z n => ∀ H', Same H H' → Q (.int (mostG A z n)) H'
end
end My

namespace My
open PySem PySem.Spec PyProof.Rows L2 Pre
/-! ### marks and their borders, in a program -/
theorem mark_good {K : PySem.W.Frag} {H : Hp} {bs : List Bool} (h1 : 2 ≤ bs.length) (h2 : bs.length ≤ 16) : MarkV K H (.str (bS bs)) true :=
  .inl ⟨bs, rfl, by omega, (decide_eq_true ⟨h1, h2⟩).symm⟩
/-- a mark asked of -/
def BMk (K : PySem.W.Frag) (H : Hp) (C : Addr) (v : V) (E : XK) (ok : List Bool → Prop) : Prop :=
  (∃ bs : List Bool, v = .str (bS bs) ∧ 2 ≤ bs.length ∧ bs.length ≤ 16 ∧ ok bs) ∨ (MarkV K H v false ∧ ∀ H' d, Same H H' → H' d = none → E (.ref C) (some d) (upd H' d (.xd [("value", v)])))
theorem bord_lt {m : List Bool} : ∀ k ∈ bord m, 0 < k ∧ k < m.length := fun k hk => by
  obtain ⟨h1, _⟩ := List.mem_filter.mp hk
  obtain ⟨i, hi, rfl⟩ := List.mem_map.mp h1
  have := List.mem_range.mp hi
  exact ⟨by omega, by omega⟩
theorem bord_len (m : List Bool) : (bord m).length ≤ m.length := by
  have h1 := List.length_filter_le (isB m) ((List.range (m.length - 1)).map (· + 1))
  rw [List.length_map, List.length_range] at h1
  show ((bord m)).length ≤ _
  unfold bord
  omega
/-- the borders as a comprehension makes them -/
def bordO (m : List Bool) : List (Option V) := (List.range (m.length - 1)).map fun i => if isB m (i + 1) = true then some (V.int ((i + 1 : Nat) : Int)) else none
theorem bordO_fm (m : List Bool) : (bordO m).filterMap id = (nI (bord m)).map V.int := by
  unfold bordO bord nI
  generalize List.range (m.length - 1) = l
  induction l with
  | nil => rfl
  | cons i r ih =>
    rw [List.map_cons, List.filterMap_cons, List.map_cons, List.filter_cons]
    by_cases h : isB m (i + 1) = true
    · rw [if_pos h, if_pos h, List.map_cons, List.map_cons, ← ih]
      rfl
    · rw [if_neg h, if_neg h, ← ih]
      rfl
local macro_rules | `(tactic| walk_at "go") => `(tactic| repeat (first | (with_reducible first | refine iteT ?_ | refine iteF ?_ | refine iteNtt ?_ | refine iteNff ?_ | refine iteET (by omega) ?_ | refine iteEF (by omega) ?_ | refine iteENT (by omega) ?_ | refine iteENF (by omega) ?_ | refine iteDT (by omega) ?_ | refine iteDF (by omega) ?_ | refine iteNT (by omega) ?_ | refine iteNF (by omega) ?_) | refine ⟨_, rfl, ?_⟩ | refine ⟨_, _, rfl, rfl, ?_⟩ | refine ⟨_, _, rfl, ?_⟩ | refine ⟨rfl, ?_⟩ | refine .inl ⟨_, rfl, ?_⟩ | refine .inr ⟨_, rfl, ?_⟩))
local macro_rules | `(tactic| walk_at "b") => `(tactic| try dsimp (config := { proj := false, iota := false, eta := false, zeta := false }) only)
section
variable {P : Program} {w : World} {K : PySem.W.Frag} {mg : Str → Option Value} {base : Heap} [pf : Sup.PF P fileS]
def sp_borders (K : PySem.W.Frag) (C : Addr) : Sp := fun vs H Q E => ∃ v : V, vs = [v] ∧ BMk K H C v E fun bs => ∀ H' a, Same H H' → H a = none → H' a = some (.lst ((nI (bord bs)).map V.int)) → Q (.ref a) H'
theorem G_borders (T : Top K mg) : FnOk P w K mg base (L2.CX P w) 4 T.f_borders T.fd_borders ["mark"] (sp_borders K T.C_InvalidMark) := by
  refine T.F_borders.ok (CX := L2.CX P w) sc_borders (fun vs H Q E h => by obtain ⟨v, rfl, _⟩ := h; rfl) (fun cdv A outer s H vs Q E hr h => ?_)
  obtain ⟨v, rfl, h⟩ := h
  refine ⟨_, (pss_cons (ps_expr (pe_call (G_check_mark (P := P) T) (hr.mono (by decide)) (by rfl) T.g_check_mark T.F_check_mark.kp T.b_check_mark .nil (passes_call (takes_of rfl rfl rfl rfl) (fun _ _ _ _ h => h)) (pa_cons (pv 0) pa_nil)))
  (pss_one (ps_ret (pe_lc (own := [("width", 1)]) (g := gName 1) (by rfl) sc_borders.nd (pi_range2 (by rfl) T.n_range (pa_cons pe_int (pa_cons (pe_callB call_len_str (by rfl) T.n_len (by decide +kernel) (pa_cons (pv 0) pa_nil)) pa_nil))) (blkOk_by (own := [("width", 1)]) (N := N_borders) (sc := defScope s_borders) (by decide +kernel)) (fun _ _ _ _ _ => (pg_name (i := 1) sc_borders.nd rfl (by first | exact Or.inl rfl | exact Or.inr rfl))) (fun _ _ _ _ _ => (pts_one (pt_cmpR op_eq (pe_slice sl_str (pv 0) po_none (po_some (pv 1))) (pe_slice sl_str (pv 0) (po_some (pe_op op_sub (pe_callB call_len_str (by rfl) T.n_len (by decide +kernel) (pa_cons (pv 0) pa_nil)) (pv 1))) po_none) (nomark _)))) (fun _ _ _ _ _ => (pv 1)))))), ?_⟩
  rcases h with ⟨bs, rfl, h1, h2, q⟩ | ⟨hv, q⟩
  · have hl : (bS bs).length = bs.length := bS_len bs
    refine ⟨_, rfl, _, true, rfl, mark_good h1 h2, fun _ H1 s1 => ?_, (fun z => nomatch z)⟩
    refine ⟨_, rfl, _, rfl, by rw [hl, sizeLine_eq]; omega, ?_⟩
    rw [hl]
    refine ⟨_, _, rfl, ⟨by decide, by decide, by omega, by omega⟩, fun D nD => ?_⟩
    rw [show (((bs.length : Nat) : Int) - 1).toNat = bs.length - 1 by omega]
    refine lc_selR (lo := 1) (n := bs.length - 1) (bordO bs) nD (by unfold bordO; rw [List.length_map, List.length_range]) (small4 (by omega)) (fun x => rfl) ?_ ?_
    · intro i o H' hi ho s Qt qt
      unfold bordO at ho
      rw [List.getElem?_map, List.getElem?_range hi] at ho
      cases ho
      dsimp only at qt
      rw [show (1 : Int) + (i : Nat) = ((i + 1 : Nat) : Int) by omega]
      refine ⟨_, rfl, _, rfl, _, rfl, _, rfl, by rw [hl, sizeLine_eq]; omega, ?_⟩
      rw [cut_bSt]
      refine ⟨_, rfl, _, rfl, _, rfl, by rw [hl, sizeLine_eq]; omega, _, rfl, _, _, rfl, rfl, _, rfl, _, rfl, by rw [hl, sizeLine_eq]; omega, ?_⟩
      dsimp only
      rw [hl, show ((bs.length : Int) - ((i + 1 : Nat) : Int)) = ((bs.length - (i + 1) : Nat) : Int) by omega, cut_bSd]
      refine ⟨rfl, _, rfl, ?_⟩
      rw [dec_bS]
      by_cases c : isB bs (i + 1) = true
      · rw [if_pos c] at qt
        exact iteDT (of_decide_eq_true c) ⟨_, rfl, qt _ (Same.refl _)⟩
      · rw [if_neg c] at qt
        exact iteDF (fun h => c (decide_eq_true h)) (qt _ (Same.refl _))
    · intro H2 s2 hD
      rw [bordO_fm] at hD
      exact q H2 D (s1.trans s2) (s1.free nD) hD
  · exact ⟨_, rfl, _, false, rfl, hv, (fun z => nomatch z), fun _ H' d s nd => q H' d s nd⟩
def sp_is_free (K : PySem.W.Frag) (C : Addr) : Sp := fun vs H Q E => ∃ v : V, vs = [v] ∧ BMk K H C v E fun bs => ∀ H', Same H H' → Q (.bl (decide (bord bs = []))) H'
theorem G_is_free (T : Top K mg) : FnOk P w K mg base (L2.CX P w) 5 T.f_is_free T.fd_is_free ["mark"] (sp_is_free K T.C_InvalidMark) := by
  refine T.F_is_free.ok (CX := L2.CX P w) sc_is_free (fun vs H Q E h => by obtain ⟨v, rfl, _⟩ := h; rfl) (fun cdv A outer s H vs Q E hr h => ?_)
  obtain ⟨v, rfl, h⟩ := h
  refine ⟨_, (pss_one (ps_ret (pe_cmpR (k_eqD K rfl hr.units) (pe_call (G_borders (P := P) T) (hr.mono (by decide)) (by rfl) T.g_borders T.F_borders.kp T.b_borders .nil (passes_call (takes_of rfl rfl rfl rfl) (fun _ _ _ _ h => h)) (pa_cons (pv 0) pa_nil)) (pe_lst pa_nil) (nomark _)))), ?_⟩
  refine ⟨_, rfl, v, rfl, ?_⟩
  rcases h with ⟨bs, rfl, h1, h2, q⟩ | h
  · refine .inl ⟨bs, rfl, h1, h2, fun H1 a s1 na ha => ⟨Nat.zero_le _, fun p np => ?_⟩⟩
    refine eqD_lst (ns := nI (bord bs)) (ms := nI []) (.inl (.inl (same_upd np _ _ ha))) (.inl (.inl upd_same)) ?_
    have e : decide (nI (bord bs) = nI []) = decide (bord bs = []) := by rw [decide_eq_decide]; exact nI_inj
    rw [e]
    exact q _ (s1.trans (same_upd np))
  · exact .inr h
def sp_how_many_free (K : PySem.W.Frag) (B : Addr) : Sp := fun vs H Q E => ∃ u : V, vs = [u] ∧ ((∃ n : Nat, u = .int n ∧ 2 ≤ n ∧ n ≤ 1000 ∧ ∀ H', Same H H' → Q (.int (fr n)) H') ∨ (NumV K H u 2 (some 1000) false ∧ ∀ H' d, Same H H' → H' d = none → E (.ref B) (some d) (upd H' d (.xd [("value", u)]))))
theorem G_how_many_free (T : Top K mg) : FnOk P w K mg base (L2.CX P w) 4 T.f_how_many_free T.fd_how_many_free ["many"] (sp_how_many_free K T.C_InvalidNumber) := by
  refine T.F_how_many_free.ok (CX := L2.CX P w) sc_how_many_free (fun vs H Q E h => by obtain ⟨u, rfl, _⟩ := h; rfl) (fun cdv A outer s H vs Q E hr h => ?_)
  obtain ⟨u, rfl, h⟩ := h
  refine ⟨_, (pss_cons (ps_expr (pe_call (G_check_number (P := P) T) (hr.mono (by decide)) (by rfl) T.g_check_number T.F_check_number.kp T.b_check_number .nil (passes_call (takes_of rfl rfl rfl rfl) (fun _ _ _ _ h => h)) (pa_cons (pv 0) (pa_cons pe_int (pa_cons (pe_glob (v := .int 1000) rfl T.m_MOST_MANY ⟨_, rfl⟩) pa_nil)))))
  (pss_cons (ps_set (i := 1) sc_how_many_free.nd rfl (by first | exact Or.inl rfl | exact Or.inr rfl) (pe_lst (pa_cons pe_int (pa_cons pe_int pa_nil))))
  (pss_cons (ps_for (passes_of rfl) rfl (pi_range2 (by rfl) T.n_range (pa_cons pe_int (pa_cons (pe_op op_add (pv 0) pe_int) pa_nil))) (pg_name (i := 2) sc_how_many_free.nd rfl (by first | exact Or.inl rfl | exact Or.inr rfl))
    (pss_cons (ps_set (i := 3) sc_how_many_free.nd rfl (by first | exact Or.inl rfl | exact Or.inr rfl) (pe_ifExp (pt_cmpR op_eq (pe_op op_mod (pv 2) pe_int) pe_int (nomark _)) (pe_ix (k_ixL K rfl) (pv 1) (pe_op op_fdivW (pv 2) pe_int) (fun _ _ => rfl)) pe_int))
  (pss_one (ps_expr (pe_bm PySem.F.plainAttrs_list PySem.F.slot_list_append PySem.F.type_list_append mt_append (pv 1) (pa_cons (pe_op op_sub (pe_op op_mul pe_int (pe_ix (k_ixL K rfl) (pv 1) (pe_op op_sub (pv 2) pe_int) (fun _ _ => rfl))) (pv 3)) pa_nil))))))
  (pss_one (ps_ret (pe_ix (k_ixL K rfl) (pv 1) (pv 0) (fun _ _ => rfl))))))), ?_⟩
  rcases h with ⟨n, rfl, h1, h2, q⟩ | ⟨hu, q⟩
  · have hn : NumV K H (.int (n : Int)) 2 (some 1000) true := .inl ⟨n, rfl, (decide_eq_true ⟨by omega, fun j e => by cases e; omega⟩).symm⟩
    refine ⟨_, rfl, _, 2, some 1000, true, rfl, hn, fun _ => ?_, (fun z => nomatch z)⟩
    refine ⟨(by show 2 ≤ sizeLine; decide), fun p np => ?_⟩
    obtain ⟨H1, e1, s1, hp⟩ := fresh (.lst [V.int 1, V.int 2]) np
    rw [e1]
    refine ⟨_, rfl, _, _, rfl, rfl, _, _, rfl, ⟨by decide, by decide, by omega, by omega⟩, ?_⟩
    walk_at "b"
    rw [show (((n : Nat) : Int) + 1 - 2).toNat = n - 1 by omega]
    have at_ : ∀ (i k : Nat), k < i + 2 → ((frL i).map V.int)[k]? = some (.int ((frL i).getD k 0)) := fun i k hk => by
      rw [List.getElem?_map, List.getD_eq_getElem?_getD, List.getElem?_eq_getElem (by rw [frL_len]; exact hk)]
      rfl
    refine for_range (lo := 2) (n := n - 1) (fun i σ H2 => ∃ v2 v3 : Option V, σ = [some (.int (n : Int)), some (.ref p), v2, v3] ∧ Same H H2 ∧ H2 p = some (.lst ((frL i).map V.int))) ⟨none, none, rfl, s1, hp⟩ ?_ ?_
    · rintro i σ H2 hi ⟨v2, v3, rfl, s2, hp2⟩
      rw [show (2 : Int) + (i : Nat) = ((i + 2 : Nat) : Int) by omega]
      refine ⟨_, rfl, _, _, rfl, rfl, (show (0 : Int) < 2 by decide), rfl, _, rfl, ?_⟩
      have ap : (frL i).map V.int ++ [V.int (2 * (frL i).getD (i + 1) 0 - if (i + 2) % 2 = 0 then (frL i).getD ((i + 2) / 2) 0 else 0)] = (frL (i + 1)).map V.int := by
        rw [frL, List.map_append]
        rfl
      by_cases c : (i + 2) % 2 = 0
      · rw [if_pos c] at ap
        refine iteET (by omega) ?_
        refine ⟨_, rfl, _, rfl, _, _, rfl, rfl, ⟨by decide, by decide +kernel⟩, p, _, _, _, rfl, rfl, .inl (.inl hp2), by
          rw [show (((i + 2 : Nat) : Int) / 2) = (((i + 2) / 2 : Nat) : Int) by omega]
          exact atI_nat (at_ i ((i + 2) / 2) (by omega)), ?_⟩
        refine ⟨_, rfl, .inl ⟨rfl, _, .inl (.inl hp2)⟩, _, rfl, _, rfl, _, _, rfl, rfl, p, _, _, _, rfl, rfl, .inl (.inl hp2), by
          rw [show (((i + 2 : Nat) : Int) - 1) = ((i + 1 : Nat) : Int) by omega]
          exact atI_nat (at_ i (i + 1) (by omega)), _, _, rfl, rfl, .inl ⟨by decide, by decide⟩, _, rfl, _, _, rfl, rfl, p, _, _, rfl, rfl, hp2, by rw [List.length_map, frL_len]; exact small4 (by omega), ?_⟩
        dsimp only
        rw [ap]
        exact ⟨_, _, rfl, same_over np s2, upd_same⟩
      · rw [if_neg c] at ap
        refine iteEF (by omega) ?_
        refine ⟨_, rfl, .inl ⟨rfl, _, .inl (.inl hp2)⟩, _, rfl, _, rfl, _, _, rfl, rfl, p, _, _, _, rfl, rfl, .inl (.inl hp2), by
          rw [show (((i + 2 : Nat) : Int) - 1) = ((i + 1 : Nat) : Int) by omega]
          exact atI_nat (at_ i (i + 1) (by omega)), _, _, rfl, rfl, .inl ⟨by decide, by decide⟩, _, rfl, _, _, rfl, rfl, p, _, _, rfl, rfl, hp2, by rw [List.length_map, frL_len]; exact small4 (by omega), ?_⟩
        dsimp only
        rw [ap]
        exact ⟨_, _, rfl, same_over np s2, upd_same⟩
    · rintro σ H2 ⟨v2, v3, rfl, s2, hp2⟩
      refine ⟨_, rfl, _, rfl, p, _, _, _, rfl, rfl, .inl (.inl hp2), atI_nat (at_ (n - 1) n (by omega)), ?_⟩
      rw [frL_at (by omega)]
      exact q _ s2
  · exact ⟨_, rfl, u, 2, some 1000, false, rfl, hu, (fun z => nomatch z), fun _ d nd => q H d (Same.refl _) nd⟩
end
end My

namespace My
open PySem PySem.Spec PyProof.Rows L2 Pre
/-! ### rows without a mark, in a program -/
/-- a row of counts told by a function -/
def rowF (n : Nat) (f : Nat → Nat) : List V := (nI ((List.range n).map f)).map V.int
theorem rowF_len (n : Nat) (f : Nat → Nat) : (rowF n f).length = n := by unfold rowF; rw [nI_len, List.length_map, List.length_range]
theorem rowF_get {n : Nat} (f : Nat → Nat) {i : Nat} (h : i < n) : (rowF n f)[i]? = some (.int ((f i : Nat) : Int)) := by
  unfold rowF
  exact nI_get (by rw [List.getElem?_map, List.getElem?_range h]; rfl)
theorem rowF_ext {n : Nat} {f : Nat → Nat} {xs : List V} (hl : xs.length = n) (h : ∀ i, i < n → xs[i]? = some (.int ((f i : Nat) : Int))) : xs = rowF n f := by
  refine List.ext_getElem? fun i => ?_
  by_cases hi : i < n
  · rw [h i hi, rowF_get f hi]
  · rw [List.getElem?_eq_none (by omega), List.getElem?_eq_none (by rw [rowF_len]; omega)]
theorem rowF_set {n s v : Nat} {f g : Nat → Nat} (hs : s < n) (e1 : g s = v) (e2 : ∀ i, i ≠ s → f i = g i) : (rowF n f).set s (.int ((v : Nat) : Int)) = rowF n g := by
  refine rowF_ext (by rw [List.length_set, rowF_len]) fun i hi => ?_
  rw [List.getElem?_set]
  by_cases c : s = i
  · subst c
    rw [if_pos rfl, if_pos (by rw [rowF_len]; exact hs), e1]
  · rw [if_neg c, rowF_get f hi, e2 i fun h => c h.symm]
theorem rowF_congr {n : Nat} {f g : Nat → Nat} (e : ∀ i, f i = g i) : rowF n f = rowF n g := by rw [show f = g from funext e]
theorem rowF_zero (n : Nat) : (nI (List.replicate n 0)).map V.int = rowF n fun _ => 0 := rowF_ext (by rw [nI_len, List.length_replicate]) fun i hi => nI_get (by rw [List.getElem?_replicate, if_pos hi])
theorem rep0 (k : Nat) : (List.replicate k [V.int 0]).flatten = (nI (List.replicate k 0)).map V.int := by
  induction k with
  | zero => rfl
  | succ k ih => rw [List.replicate_succ, List.flatten_cons, ih, List.replicate_succ]; rfl
theorem nI_sum : ∀ l : List Nat, (nI l).sum = ((l.sum : Nat) : Int)
  | [] => rfl
  | x :: r => by
    show (x : Int) + (nI r).sum = ((x + r.sum : Nat) : Int)
    rw [nI_sum r, Int.natCast_add]
/-- the bits up to one done -/
def bUp (m : List Bool) (S : List Nat) (i j s : Nat) : Nat := cL m false S (if 1 ≤ j then i + 1 else i) s + cL m true S (if 2 ≤ j then i + 1 else i) s
theorem bUp_step (m : List Bool) (S : List Nat) (i j s : Nat) (hj : j < 2) : bUp m S i (j + 1) s = bUp m S i j s + if mv m i (j == 1) = s then cnt S i else 0 := by
  unfold bUp
  have : j = 0 ∨ j = 1 := by omega
  rcases this with rfl | rfl
  · rw [show ((0 : Nat) == 1) = false from rfl, if_pos (by decide), if_neg (by decide), if_neg (by decide), if_neg (by decide), cL_succ]
    omega
  · rw [show ((1 : Nat) == 1) = true from rfl, if_pos (by decide), if_pos (by decide), if_pos (by decide), if_neg (by decide), cL_succ (b := true)]
    omega
theorem bUp_two (m : List Bool) (S : List Nat) (i s : Nat) : bUp m S i 2 s = bUp m S (i + 1) 0 s := by
  unfold bUp
  rw [if_pos (by decide), if_pos (by decide), if_neg (by decide), if_neg (by decide)]
theorem bUp_zero (m : List Bool) (S : List Nat) (s : Nat) : bUp m S 0 0 s = 0 := by
  unfold bUp
  rw [if_neg (by decide), if_neg (by decide), cL_zero, cL_zero]
def pairM (a b : Nat) : PyData := .tuple [.int (a : Int), .int (b : Int)]
def mvD (m : List Bool) : List PyData := (List.range m.length).map fun s => pairM (mv m s false) (mv m s true)
theorem mvD_len (m : List Bool) : (mvD m).length = m.length := by unfold mvD; rw [List.length_map, List.length_range]
theorem mvD_get (m : List Bool) {s : Nat} (h : s < m.length) : (mvD m)[s]? = some (pairM (mv m s false) (mv m s true)) := by
  unfold mvD
  rw [List.getElem?_map, List.getElem?_range h]
  rfl
/-- the counts in a heap -/
def cntV (m : List Bool) (t : Nat) : List V := rowF m.length (cnt (sts m t))
theorem cntV_sum {m : List Bool} {t : Nat} : ∃ ns : List Int, cntV m t = ns.map V.int ∧ ns.sum = ((aW m t : Nat) : Int) := ⟨_, rfl, by rw [nI_sum, cnt_all]⟩
local macro_rules | `(tactic| walk_at "go") => `(tactic| repeat (first | (with_reducible first | refine iteT ?_ | refine iteF ?_ | refine iteNtt ?_ | refine iteNff ?_ | refine iteET (by omega) ?_ | refine iteEF (by omega) ?_ | refine iteENT (by omega) ?_ | refine iteENF (by omega) ?_ | refine iteDT (by omega) ?_ | refine iteDF (by omega) ?_ | refine iteNT (by omega) ?_ | refine iteNF (by omega) ?_) | refine ⟨_, rfl, ?_⟩ | refine ⟨_, _, rfl, rfl, ?_⟩ | refine ⟨_, _, rfl, ?_⟩ | refine ⟨rfl, ?_⟩ | refine .inl ⟨_, rfl, ?_⟩ | refine .inr ⟨_, rfl, ?_⟩))
local macro_rules | `(tactic| walk_at "b") => `(tactic| try dsimp (config := { proj := false, iota := false, eta := false, zeta := false }) only)
section
variable {P : Program} {w : World} {K : PySem.W.Frag} {mg : Str → Option Value} {base : Heap} [pf : Sup.PF P fileS]
def sp_moves_of : Sp := fun vs H Q _ => ∃ bs : List Bool, vs = [.str (bS bs)] ∧ 2 ≤ bs.length ∧ bs.length ≤ 16 ∧ ∀ H' a, Same H H' → Dt H' (.ref a) (.list (mvD bs)) → Q (.ref a) H'
theorem G_moves_of (T : Top K mg) : FnOk P w K mg base CX0 2 T.f_moves_of T.fd_moves_of ["mark"] sp_moves_of := by
  refine T.F_moves_of.ok sc_moves_of (fun vs H Q E h => by obtain ⟨bs, rfl, _⟩ := h; rfl) (fun cdv A outer s H vs Q E hr h => ?_)
  obtain ⟨bs, rfl, h1, h2, q⟩ := h
  refine ⟨_, PSs.nox (pss_one (ps_ret (pe_lc (own := [("state", 1)]) (g := gName 1) (tt := tYes) (by rfl) sc_moves_of.nd (pi_range1 (by rfl) T.n_range (pa_cons (pe_callB call_len_str (by rfl) T.n_len (by decide +kernel) (pa_cons (pv 0) pa_nil)) pa_nil)) (blkOk_by (own := [("state", 1)]) (N := N_moves_of) (sc := defScope s_moves_of) (by decide +kernel)) (fun _ _ _ _ _ => (pg_name (i := 1) sc_moves_of.nd rfl (by first | exact Or.inl rfl | exact Or.inr rfl))) (fun _ _ _ _ _ => pts_nil) (fun _ _ _ _ _ => (pe_tup (pa_cons (pe_call (G_state_after (P := P) T) (hr.mono (by decide)) (by rfl) T.g_state_after T.F_state_after.kp T.b_state_after .nil pass0 (pa_cons (pv 0) (pa_cons (pv 1) (pa_cons pe_str pa_nil)))) (pa_cons (pe_call (G_state_after (P := P) T) (hr.mono (by decide)) (by rfl) T.g_state_after T.F_state_after.kp T.b_state_after .nil pass0 (pa_cons (pv 0) (pa_cons (pv 1) (pa_cons pe_str pa_nil)))) pa_nil))))))), ?_⟩
  have hl : (bS bs).length = bs.length := bS_len bs
  obtain ⟨A, z, rfl⟩ : ∃ A z, bs = A ++ [z] := ⟨bs.dropLast, bs.getLast (by intro e; rw [e] at h1; simp at h1), (List.dropLast_concat_getLast _).symm⟩
  have hA : (A ++ [z]).length = A.length + 1 := by rw [List.length_append, List.length_singleton]
  refine ⟨_, rfl, _, rfl, by rw [hl, sizeLine_eq]; omega, ?_⟩
  rw [hl]
  refine ⟨_, rfl, by omega, by omega, fun D nD => ?_⟩
  rw [Int.toNat_natCast]
  refine lc_dR (lo := 0) (n := (A ++ [z]).length) (S := []) Has.nil ((List.range (A ++ [z]).length).map fun s => some (pairM (mv (A ++ [z]) s false) (mv (A ++ [z]) s true))) nD (by rw [List.length_map, List.length_range]) (small4 (by omega)) ?_ ?_ ?_
  · exact fun x => rfl
  · intro i o H' hi ho s' hH Qt qt
    rw [List.getElem?_map, List.getElem?_range hi] at ho
    cases ho
    rw [Int.zero_add]
    unfold tYes
    dsimp only
    rw [if_pos (show true = true from rfl)]
    refine ⟨_, rfl, _, rfl, A, z, i, false, by rw [str_zero]; rfl, by omega, by omega, ?_⟩
    refine ⟨_, rfl, _, rfl, A, z, i, true, by rw [str_one]; rfl, by omega, by omega, ?_⟩
    refine ⟨(by show 2 ≤ sizeLine; decide), fun p np => ?_⟩
    exact qt _ _ (same_upd np) (.tup (by rw [rs_out (hH.out np), upd_same]; rfl) (.cons (.int _) (.cons (.int _) .nil)))
  · intro H1 s1 nD1 hd
    rw [rs_nil, sel_map] at hd
    exact q H1 D s1 hd
def sp_counts_at_first : Sp := fun vs H Q _ => ∃ bs : List Bool, vs = [.str (bS bs)] ∧ 2 ≤ bs.length ∧ bs.length ≤ 16 ∧ ∀ H' a, Same H H' → H' a = some (.lst (cntV bs 0)) → Q (.ref a) H'
theorem G_counts_at_first (T : Top K mg) : FnOk P w K mg base CX0 1 T.f_counts_at_first T.fd_counts_at_first ["mark"] sp_counts_at_first := by
  refine T.F_counts_at_first.ok sc_counts_at_first (fun vs H Q E h => by obtain ⟨bs, rfl, _⟩ := h; rfl) (fun cdv A outer s H vs Q E hr h => ?_)
  obtain ⟨bs, rfl, h1, h2, q⟩ := h
  refine ⟨_, PSs.nox (pss_one (ps_ret (pe_op op_cat (pe_lst (pa_cons pe_int pa_nil)) (pe_op op_rep (pe_lst (pa_cons pe_int pa_nil)) (pe_op op_sub (pe_callB call_len_str (by rfl) T.n_len (by decide +kernel) (pa_cons (pv 0) pa_nil)) pe_int))))), ?_⟩
  have hl : (bS bs).length = bs.length := bS_len bs
  refine ⟨(by show 1 ≤ sizeLine; decide), fun p np => ?_⟩
  obtain ⟨H1, e1, s1, hp⟩ := fresh (.lst [V.int 1]) np
  rw [e1]
  refine ⟨(by show 1 ≤ sizeLine; decide), fun p2 np2 => ?_⟩
  obtain ⟨H2, e2, s2, hp2⟩ := fresh (.lst [V.int 0]) np2
  rw [e2]
  refine ⟨_, rfl, _, rfl, by rw [hl, sizeLine_eq]; omega, _, _, rfl, rfl, ?_⟩
  dsimp only
  rw [hl, show ((bs.length : Int) - 1) = ((bs.length - 1 : Nat) : Int) by omega]
  refine ⟨p2, _, _, rfl, rfl, hp2, by omega, by omega, by rw [Int.toNat_natCast, sizeLine_eq]; show 1 * _ ≤ _; omega, fun p3 np3 => ?_⟩
  rw [Int.toNat_natCast, rep0]
  obtain ⟨H3, e3, s3, hp3⟩ := fresh (.lst ((nI (List.replicate (bs.length - 1) 0)).map V.int)) np3
  rw [e3]
  refine ⟨p, p3, _, _, rfl, rfl, s3 _ _ (s2 _ _ hp), hp3, by rw [nI_len, List.length_replicate, sizeLine_eq]; show 1 + _ ≤ _; omega, fun p4 np4 => ?_⟩
  refine q _ p4 (((s1.trans s2).trans s3).trans (same_upd np4)) ?_
  rw [upd_same]
  have e : cntV bs 0 = (nI (cntL bs 0)).map V.int := rfl
  rw [e, cntL_zero (by omega)]
  rfl
def sp_counts_after : Sp := fun vs H Q _ => ∃ (m c : Addr) (bs : List Bool) (t : Nat), vs = [.ref m, .ref c] ∧ 2 ≤ bs.length ∧ bs.length ≤ 16 ∧ Dt H (.ref m) (.list (mvD bs)) ∧ H c = some (.lst (cntV bs t)) ∧ ∀ H' a, Same H H' → H' a = some (.lst (cntV bs (t + 1))) → Q (.ref a) H'
theorem G_counts_after (T : Top K mg) : FnOk P w K mg base CX0 1 T.f_counts_after T.fd_counts_after ["moves", "counts"] sp_counts_after := by
  refine T.F_counts_after.ok sc_counts_after (fun vs H Q E h => by obtain ⟨m, c, bs, t, rfl, _⟩ := h; rfl) (fun cdv A outer s H vs Q E hr h => ?_)
  obtain ⟨m, c, bs, t, rfl, h1, h2, hm, hc, q⟩ := h
  refine ⟨_, PSs.nox (pss_cons (ps_set (i := 2) sc_counts_after.nd rfl (by first | exact Or.inl rfl | exact Or.inr rfl) (pe_op op_rep (pe_lst (pa_cons pe_int pa_nil)) (pe_callB (k_len K rfl) (by rfl) T.n_len (by decide +kernel) (pa_cons (pv 0) pa_nil))))
  (pss_cons (ps_for PassesOwn.never rfl (k_piZL K rfl (by rfl) T.n_zip (pa_cons (pv 1) (pa_cons (pv 0) pa_nil)) (pk_cons pe_bl pk_nil)) (k_pgT K rfl (by rfl) (pgs_cons (pg_name (i := 3) sc_counts_after.nd rfl (by first | exact Or.inl rfl | exact Or.inr rfl)) (pgs_cons (pg_name (i := 4) sc_counts_after.nd rfl (by first | exact Or.inl rfl | exact Or.inr rfl)) pgs_nil)))
    (pss_one (ps_for PassesOwn.never rfl (k_piT K rfl (pv 4)) (pg_name (i := 5) sc_counts_after.nd rfl (by first | exact Or.inl rfl | exact Or.inr rfl))
    (pss_one (ps_if (pt_cmpR op_lt (pv 5) (pe_callB (k_len K rfl) (by rfl) T.n_len (by decide +kernel) (pa_cons (pv 0) pa_nil)) (nomark _))
    (pss_one (ps_asg (pe_op op_add (pe_ix (k_ixL K rfl) (pv 2) (pv 5) (fun _ _ => rfl)) (pv 3)) (pg_sub (pv 2) (pv 5) set_list)))
    pss_nil)))))
  (pss_one (ps_ret (pv 2))))), ?_⟩
  obtain ⟨_, xm, e, hxm, hdm⟩ := hm.listE
  cases e
  have lm : xm.length = bs.length := by rw [hdm.len, mvD_len]
  have lc' : (cntV bs t).length = bs.length := rowF_len _ _
  refine ⟨(by show 1 ≤ sizeLine; decide), fun p1 np1 => ?_⟩
  obtain ⟨H1, e1, s1, hp1⟩ := fresh (.lst [V.int 0]) np1
  rw [e1]
  refine ⟨_, rfl, m, _, rfl, .inl (.inl (.inl (s1 _ _ hxm))), ?_⟩
  rw [lm]
  refine ⟨p1, _, _, rfl, rfl, hp1, by omega, by omega, by rw [Int.toNat_natCast, sizeLine_eq]; show 1 * _ ≤ _; omega, fun D nD => ?_⟩
  rw [Int.toNat_natCast, rep0, rowF_zero]
  obtain ⟨H2, e2, s2, hD2⟩ := fresh (.lst (rowF bs.length fun _ => 0)) nD
  rw [e2]
  have s02 := s1.trans s2
  have nDH := s1.free nD
  refine ⟨_, rfl, _, rfl, rfl, c, m, _, _, rfl, .inl (.inl (s02 _ _ hc)), .inl (.inl (s02 _ _ hxm)), ?_⟩
  refine for_it (walk_zl (K := K) (a := c) (b := m) (xs := cntV bs t) (ys := xm) (by rw [lm, lc'])) (fun i σ H4 => ∃ v3 v4 v5 : Option V, σ = [some (.ref m), some (.ref c), some (.ref D), v3, v4, v5] ∧ Same H H4 ∧ H4 D = some (.lst (rowF bs.length (bUp bs (sts bs t) i 0))))
    ⟨none, none, none, rfl, s02, by rw [hD2, rowF_congr fun s => (bUp_zero bs (sts bs t) s)]⟩ (fun i σ H4 _ ⟨_, _, _, _, s4, _⟩ => ⟨.inl (.inl (s4 _ _ hc)), .inl (.inl (s4 _ _ hxm))⟩) ?_ ?_
  · rintro i x σ H4 H5 hi ⟨v3, v4, v5, rfl, s4, hD4⟩ ⟨T1, x1, y1, rfl, nT, rfl, e1, e2⟩
    rw [lc'] at hi
    dsimp only at e1 e2
    unfold cntV at e1
    rw [rowF_get _ hi] at e1
    cases e1
    obtain ⟨d1, ed1, D1⟩ := hdm.got e2
    rw [mvD_get bs hi] at ed1
    cases ed1
    obtain ⟨b, us, rfl, hb, hu⟩ := D1.tupE
    obtain rfl : us = [V.int ((mv bs i false : Nat) : Int), V.int ((mv bs i true : Nat) : Int)] := by
      cases hu with
      | cons a1 hu => cases hu with
        | cons a2 hu =>
          cases hu
          cases a1
          cases a2
          rfl
    refine ⟨T1, _, rfl, .inl (.inl upd_same), rfl, _, _, rfl, _, _, rfl, rfl, ?_⟩
    have sT := same_upd (o := .tup [V.int ((cnt (sts bs t) i : Nat) : Int), V.ref b]) nT
    generalize upd H4 T1 (.tup [V.int ((cnt (sts bs t) i : Nat) : Int), V.ref b]) = H5 at *
    have s5 := s4.trans sT
    have hb5 := s5 _ _ hb
    refine ⟨_, rfl, b, rfl, ⟨_, .inl (.inl hb5)⟩, for_tup (K := K) (a := b) (xs := [V.int ((mv bs i false : Nat) : Int), V.int ((mv bs i true : Nat) : Int)]) (fun j σ H6 => ∃ v5 : Option V, σ = [some (.ref m), some (.ref c), some (.ref D), some (.int ((cnt (sts bs t) i : Nat) : Int)), some (.ref b), v5] ∧ Same H H6 ∧ H6 D = some (.lst (rowF bs.length (bUp bs (sts bs t) i j))))
      ⟨v5, rfl, s5, sT _ _ hD4⟩ (fun j σ H6 _ ⟨_, _, s6, _⟩ => .inl (.inl (s6 _ _ hb))) ?_ ?_⟩
    · rintro j x σ H6 hx ⟨v5, rfl, s6, hD6⟩
      obtain ⟨hj, rfl⟩ : j < 2 ∧ x = V.int ((mv bs i (j == 1) : Nat) : Int) := by
        match j, hx with
        | 0, hx => cases hx; exact ⟨by decide, rfl⟩
        | 1, hx => cases hx; exact ⟨by decide, rfl⟩
        | j + 2, hx => simp at hx
      have hstep := fun s => bUp_step bs (sts bs t) i j s hj
      generalize mv bs i (j == 1) = g at *
      have hm6 := s6 _ _ hxm
      refine ⟨_, rfl, _, rfl, m, _, rfl, .inl (.inl (.inl hm6)), _, _, rfl, rfl, _, rfl, ?_⟩
      rw [lm]
      by_cases hg : g < bs.length
      · refine iteDT (by omega) ?_
        refine ⟨_, rfl, _, rfl, D, _, _, _, rfl, rfl, .inl (.inl hD6), atI_nat (rowF_get _ hg), _, rfl, _, _, rfl, rfl, ?_⟩
        refine ⟨_, rfl, _, rfl, D, _, _, g, rfl, rfl, hD6, ?_, ?_⟩
        · unfold ixN
          rw [if_pos (by omega), if_pos (by rw [rowF_len]; omega)]
          rfl
        · refine ⟨_, rfl, same_over nDH s6, ?_⟩
          rw [upd_same]
          dsimp only
          rw [← Int.natCast_add, rowF_set (f := bUp bs (sts bs t) i j) (g := bUp bs (sts bs t) i (j + 1)) hg (by rw [hstep, if_pos rfl]) fun s hs => by rw [hstep, if_neg fun e => hs e.symm, Nat.add_zero]]
      · refine iteDF (by omega) ?_
        refine ⟨_, rfl, s6, ?_⟩
        rw [hD6]
        congr 2
        refine rowF_ext (rowF_len _ _) fun s hs => ?_
        rw [rowF_get _ hs, hstep, if_neg (by omega), Nat.add_zero]
    · rintro σ H6 ⟨v5, rfl, s6, hD6⟩
      refine ⟨_, _, _, rfl, s6, ?_⟩
      rw [hD6]
      exact congrArg (fun l => some (HO.lst l)) (rowF_congr fun s => bUp_two bs (sts bs t) i s)
  · rintro σ H4 ⟨v3, v4, v5, rfl, s4, hD4⟩
    refine ⟨_, rfl, q H4 D s4 ?_⟩
    rw [lc'] at hD4
    rw [hD4]
    unfold cntV
    congr 2
    refine rowF_ext (rowF_len _ _) fun s hs => ?_
    rw [rowF_get _ hs, cnt_succ t hs]
    unfold bUp
    rw [if_neg (by decide), if_neg (by decide)]
end
end My

namespace My
open PySem PySem.Spec PyProof.Rows L2 Pre
/-! ### rows without a mark, marks alike, in a program -/
def Alike (m u : List Bool) : Prop := m.length = u.length ∧ bord m = bord u
instance (m u : List Bool) : Decidable (Alike m u) := by unfold Alike; infer_instance
/-- a mark and a number asked of -/
def MNk (K : PySem.W.Frag) (H : Hp) (C B : Addr) (v u : V) (E : XK) (ok : List Bool → Nat → Prop) : Prop :=
  (∃ bs : List Bool, v = .str (bS bs) ∧ 2 ≤ bs.length ∧ bs.length ≤ 16 ∧ ((∃ n : Nat, u = .int n ∧ n ≤ 1000 ∧ ok bs n) ∨ (NumV K H u 0 (some 1000) false ∧ ∀ H' d, Same H H' → H' d = none → E (.ref B) (some d) (upd H' d (.xd [("value", u)]))))) ∨
  (MarkV K H v false ∧ ∀ H' d, Same H H' → H' d = none → E (.ref C) (some d) (upd H' d (.xd [("value", v)])))
/-- two marks asked of -/
def MMk (K : PySem.W.Frag) (H : Hp) (C : Addr) (v u : V) (E : XK) (ok : List Bool → List Bool → Prop) : Prop :=
  (∃ bs : List Bool, v = .str (bS bs) ∧ 2 ≤ bs.length ∧ bs.length ≤ 16 ∧ ((∃ cs : List Bool, u = .str (bS cs) ∧ 2 ≤ cs.length ∧ cs.length ≤ 16 ∧ ok bs cs) ∨ (MarkV K H u false ∧ ∀ H' d, Same H H' → H' d = none → E (.ref C) (some d) (upd H' d (.xd [("value", u)]))))) ∨
  (MarkV K H v false ∧ ∀ H' d, Same H H' → H' d = none → E (.ref C) (some d) (upd H' d (.xd [("value", v)])))
def IsPt (bs cs : List Bool) (v : V) : Prop := (v = .non ∧ Alike bs cs) ∨ ∃ n : Nat, v = .int n ∧ ¬ Alike bs cs ∧ aW bs n ≠ aW cs n ∧ ∀ m, m < n → aW bs m = aW cs m
local macro_rules | `(tactic| walk_at "go") => `(tactic| repeat (first | (with_reducible first | refine iteT ?_ | refine iteF ?_ | refine iteNtt ?_ | refine iteNff ?_ | refine iteET (by omega) ?_ | refine iteEF (by omega) ?_ | refine iteENT (by omega) ?_ | refine iteENF (by omega) ?_ | refine iteDT (by omega) ?_ | refine iteDF (by omega) ?_ | refine iteNT (by omega) ?_ | refine iteNF (by omega) ?_) | refine ⟨_, rfl, ?_⟩ | refine ⟨_, _, rfl, rfl, ?_⟩ | refine ⟨_, _, rfl, ?_⟩ | refine ⟨rfl, ?_⟩ | refine .inl ⟨_, rfl, ?_⟩ | refine .inr ⟨_, rfl, ?_⟩))
local macro_rules | `(tactic| walk_at "b") => `(tactic| try dsimp (config := { proj := false, iota := false, eta := false, zeta := false }) only)
section
variable {P : Program} {w : World} {K : PySem.W.Frag} {mg : Str → Option Value} {base : Heap} [pf : Sup.PF P fileS]
def sp_rows_without (K : PySem.W.Frag) (C B : Addr) : Sp := fun vs H Q E => ∃ v u : V, vs = [v, u] ∧ MNk K H C B v u E fun bs n => ∀ H', Same H H' → Q (.int (aW bs n)) H'
theorem G_rows_without (T : Top K mg) : FnOk P w K mg base (L2.CX P w) 4 T.f_rows_without T.fd_rows_without ["mark", "many"] (sp_rows_without K T.C_InvalidMark T.C_InvalidNumber) := by
  refine T.F_rows_without.ok (CX := L2.CX P w) sc_rows_without (fun vs H Q E h => by obtain ⟨v, u, rfl, _⟩ := h; rfl) (fun cdv A outer s H vs Q E hr h => ?_)
  obtain ⟨v, u, rfl, h⟩ := h
  refine ⟨_, (pss_cons (ps_expr (pe_call (G_check_mark (P := P) T) (hr.mono (by decide)) (by rfl) T.g_check_mark T.F_check_mark.kp T.b_check_mark .nil (passes_call (takes_of rfl rfl rfl rfl) (fun _ _ _ _ h => h)) (pa_cons (pv 0) pa_nil)))
  (pss_cons (ps_expr (pe_call (G_check_number (P := P) T) (hr.mono (by decide)) (by rfl) T.g_check_number T.F_check_number.kp T.b_check_number .nil (passes_call (takes_of rfl rfl rfl rfl) (fun _ _ _ _ h => h)) (pa_cons (pv 1) (pa_cons pe_int (pa_cons (pe_glob (v := .int 1000) rfl T.m_MOST_MANY ⟨_, rfl⟩) pa_nil)))))
  (pss_cons (ps_par (by rfl) sc_rows_without.nd (i := 3) (j := 4) rfl rfl (by decide) rfl rfl (pa_cons (pe_call (G_moves_of (P := P) T) (hr.mono (by decide)) (by rfl) T.g_moves_of T.F_moves_of.kp T.b_moves_of .nil pass0 (pa_cons (pv 0) pa_nil)) (pa_cons (pe_call (G_counts_at_first (P := P) T) (hr.mono (by decide)) (by rfl) T.g_counts_at_first T.F_counts_at_first.kp T.b_counts_at_first .nil pass0 (pa_cons (pv 0) pa_nil)) pa_nil)) (by rfl))
  (pss_cons (ps_for (passes_of rfl) rfl (pi_range1 (by rfl) T.n_range (pa_cons (pv 1) pa_nil)) (pg_name (i := 2) sc_rows_without.nd rfl (by first | exact Or.inl rfl | exact Or.inr rfl))
    (pss_one (ps_set (i := 4) sc_rows_without.nd rfl (by first | exact Or.inl rfl | exact Or.inr rfl) (pe_call (G_counts_after (P := P) T) (hr.mono (by decide)) (by rfl) T.g_counts_after T.F_counts_after.kp T.b_counts_after .nil pass0 (pa_cons (pv 3) (pa_cons (pv 4) pa_nil))))))
  (pss_one (ps_ret (pe_callB (k_sum K rfl rfl) (by rfl) T.n_sum (by decide +kernel) (pa_cons (pv 4) pa_nil)))))))), ?_⟩
  rcases h with ⟨bs, rfl, h1, h2, ⟨n, rfl, hn, q⟩ | ⟨hu, q⟩⟩ | ⟨hv, q⟩
  · refine ⟨_, rfl, _, true, rfl, mark_good h1 h2, fun _ H1 s1 => ?_, (fun z => nomatch z)⟩
    refine ⟨_, rfl, _, 0, some 1000, true, rfl, NumV.nat (by omega), fun _ => ?_, fun z => nomatch z⟩
    refine ⟨_, rfl, bs, rfl, h1, h2, fun H2 m s2 hm => ?_⟩
    refine ⟨_, rfl, bs, rfl, h1, h2, fun H3 c s3 hc => ?_⟩
    refine ⟨_, _, rfl, ?_⟩
    have hm3 := hm.same s3
    refine ⟨_, rfl, _, rfl, by omega, by omega, ?_⟩
    rw [Int.toNat_natCast]
    refine for_range (lo := 0) (n := n) (fun i σ H4 => ∃ (d : Addr) (v4 : Option V), σ = [some (.str (bS bs)), some (.int n), v4, some (.ref m), some (.ref d)] ∧ Same H3 H4 ∧ H4 d = some (.lst (cntV bs i))) ⟨c, none, rfl, Same.refl _, hc⟩ ?_ ?_
    · rintro i σ H4 hi ⟨d, v4, rfl, s4, hd⟩
      refine ⟨_, rfl, _, rfl, m, d, bs, i, rfl, h1, h2, hm3.same s4, hd, fun H5 p s5 hp => ?_⟩
      exact ⟨p, _, rfl, s4.trans s5, hp⟩
    · rintro σ H4 ⟨d, v4, rfl, s4, hd⟩
      obtain ⟨ns, e1, e2⟩ := cntV_sum (m := bs) (t := n)
      rw [e1] at hd
      refine ⟨_, rfl, d, ns, rfl, .inl (.inl hd), ?_⟩
      rw [e2]
      exact q _ (((s1.trans s2).trans s3).trans s4)
  · refine ⟨_, rfl, _, true, rfl, mark_good h1 h2, fun _ H1 s1 => ?_, (fun z => nomatch z)⟩
    exact ⟨_, rfl, u, 0, some 1000, false, rfl, hu.same s1, (fun z => nomatch z), fun _ d nd => q H1 d s1 nd⟩
  · exact ⟨_, rfl, _, false, rfl, hv, (fun z => nomatch z), fun _ H' d s nd => q H' d s nd⟩
def sp_same_marks (K : PySem.W.Frag) (C : Addr) : Sp := fun vs H Q E => ∃ v u : V, vs = [v, u] ∧ MMk K H C v u E fun bs cs => ∀ H', Same H H' → Q (.bl (decide (Alike bs cs))) H'
theorem G_same_marks (T : Top K mg) : FnOk P w K mg base (L2.CX P w) 5 T.f_same_marks T.fd_same_marks ["one", "other"] (sp_same_marks K T.C_InvalidMark) := by
  refine T.F_same_marks.ok (CX := L2.CX P w) sc_same_marks (fun vs H Q E h => by obtain ⟨v, u, rfl, _⟩ := h; rfl) (fun cdv A outer s H vs Q E hr h => ?_)
  obtain ⟨v, u, rfl, h⟩ := h
  refine ⟨_, (pss_cons (ps_par (by rfl) sc_same_marks.nd (i := 2) (j := 3) rfl rfl (by decide) rfl rfl (pa_cons (pe_call (G_borders (P := P) T) (hr.mono (by decide)) (by rfl) T.g_borders T.F_borders.kp T.b_borders .nil (passes_call (takes_of rfl rfl rfl rfl) (fun _ _ _ _ h => h)) (pa_cons (pv 0) pa_nil)) (pa_cons (pe_call (G_borders (P := P) T) (hr.mono (by decide)) (by rfl) T.g_borders T.F_borders.kp T.b_borders .nil (passes_call (takes_of rfl rfl rfl rfl) (fun _ _ _ _ h => h)) (pa_cons (pv 1) pa_nil)) pa_nil)) (by rfl))
  (pss_one (ps_ret (pe_and (pe_cmpR op_eq (pe_callB call_len_str (by rfl) T.n_len (by decide +kernel) (pa_cons (pv 0) pa_nil)) (pe_callB call_len_str (by rfl) T.n_len (by decide +kernel) (pa_cons (pv 1) pa_nil)) (nomark _)) (pe_one (pe_cmpR (k_eqD K rfl hr.units) (pv 2) (pv 3) (nomark _))))))), ?_⟩
  rcases h with ⟨bs, rfl, h1, h2, ⟨cs, rfl, k1, k2, q⟩ | ⟨hu, q⟩⟩ | ⟨hv, q⟩
  · refine ⟨_, rfl, _, rfl, .inl ⟨bs, rfl, h1, h2, fun H1 a s1 na ha => ?_⟩⟩
    refine ⟨_, rfl, _, rfl, .inl ⟨cs, rfl, k1, k2, fun H2 b s2 nb hb => ?_⟩⟩
    refine ⟨_, _, rfl, ?_⟩
    refine ⟨_, rfl, _, rfl, by rw [bS_len, sizeLine_eq]; omega, _, rfl, _, rfl, by rw [bS_len, sizeLine_eq]; omega, rfl, _, rfl, ?_⟩
    rw [bS_len, bS_len]
    by_cases c : bs.length = cs.length
    · refine iteET (by omega) ?_
      refine ⟨_, rfl, _, rfl, ?_⟩
      refine eqD_lst (ns := nI (bord bs)) (ms := nI (bord cs)) (.inl (.inl (s2 _ _ ha))) (.inl (.inl hb)) ?_
      have e : decide (nI (bord bs) = nI (bord cs)) = decide (Alike bs cs) := by
        rw [decide_eq_decide, nI_inj]
        exact ⟨fun h => ⟨c, h⟩, fun h => h.2⟩
      rw [e]
      exact q _ (s1.trans s2)
    · refine iteEF (by omega) ?_
      have := q _ (s1.trans s2)
      rw [decide_eq_false fun h => c h.1] at this
      exact this
  · refine ⟨_, rfl, _, rfl, .inl ⟨bs, rfl, h1, h2, fun H1 a s1 na ha => ?_⟩⟩
    exact ⟨_, rfl, _, rfl, .inr ⟨hu.same s1, fun H' d s nd => q H' d (s1.trans s) nd⟩⟩
  · exact ⟨_, rfl, _, rfl, .inr ⟨hv, q⟩⟩
def sp_parting_length (K : PySem.W.Frag) (C : Addr) : Sp := fun vs H Q E => ∃ v u : V, vs = [v, u] ∧ MMk K H C v u E fun bs cs => (Alike bs cs ∨ ∃ n, aW bs n ≠ aW cs n) ∧ ∀ H' x, Same H H' → IsPt bs cs x → Q x H'
theorem G_parting_length (T : Top K mg) : FnOk P w K mg base (L2.CX P w) 6 T.f_parting_length T.fd_parting_length ["one", "other"] (sp_parting_length K T.C_InvalidMark) := by
  refine T.F_parting_length.ok (CX := L2.CX P w) sc_parting_length (fun vs H Q E h => by obtain ⟨v, u, rfl, _⟩ := h; rfl) (fun cdv A outer s H vs Q E hr h => ?_)
  obtain ⟨v, u, rfl, h⟩ := h
  refine ⟨_, (pss_cons (ps_if (pt_val (pe_call (G_same_marks (P := P) T) (hr.mono (by decide)) (by rfl) T.g_same_marks T.F_same_marks.kp T.b_same_marks .nil (passes_call (takes_of rfl rfl rfl rfl) (fun _ _ _ _ h => h)) (pa_cons (pv 0) (pa_cons (pv 1) pa_nil))))
    (pss_one (ps_ret pe_non))
    pss_nil)
  (pss_cons (ps_par3 (by rfl) sc_parting_length.nd (i := 2) (j := 3) (l := 4) rfl rfl rfl (by decide) (by decide) (by decide) rfl rfl rfl (pa_cons pe_int (pa_cons (pe_call (G_counts_at_first (P := P) T) (hr.mono (by decide)) (by rfl) T.g_counts_at_first T.F_counts_at_first.kp T.b_counts_at_first .nil pass0 (pa_cons (pv 0) pa_nil)) (pa_cons (pe_call (G_counts_at_first (P := P) T) (hr.mono (by decide)) (by rfl) T.g_counts_at_first T.F_counts_at_first.kp T.b_counts_at_first .nil pass0 (pa_cons (pv 1) pa_nil)) pa_nil))) (by rfl))
  (pss_cons (ps_par (by rfl) sc_parting_length.nd (i := 5) (j := 6) rfl rfl (by decide) rfl rfl (pa_cons (pe_call (G_moves_of (P := P) T) (hr.mono (by decide)) (by rfl) T.g_moves_of T.F_moves_of.kp T.b_moves_of .nil pass0 (pa_cons (pv 0) pa_nil)) (pa_cons (pe_call (G_moves_of (P := P) T) (hr.mono (by decide)) (by rfl) T.g_moves_of T.F_moves_of.kp T.b_moves_of .nil pass0 (pa_cons (pv 1) pa_nil)) pa_nil)) (by rfl))
  (pss_cons (ps_while (passes_of rfl) (pt_cmpR op_eq (pe_callB (k_sum K rfl rfl) (by rfl) T.n_sum (by decide +kernel) (pa_cons (pv 3) pa_nil)) (pe_callB (k_sum K rfl rfl) (by rfl) T.n_sum (by decide +kernel) (pa_cons (pv 4) pa_nil)) (nomark _))
    (pss_cons (ps_set (i := 2) sc_parting_length.nd rfl (by first | exact Or.inl rfl | exact Or.inr rfl) (pe_op op_add (pv 2) pe_int))
  (pss_one (ps_par (by rfl) sc_parting_length.nd (i := 3) (j := 4) rfl rfl (by decide) rfl rfl (pa_cons (pe_call (G_counts_after (P := P) T) (hr.mono (by decide)) (by rfl) T.g_counts_after T.F_counts_after.kp T.b_counts_after .nil pass0 (pa_cons (pv 5) (pa_cons (pv 3) pa_nil))) (pa_cons (pe_call (G_counts_after (P := P) T) (hr.mono (by decide)) (by rfl) T.g_counts_after T.F_counts_after.kp T.b_counts_after .nil pass0 (pa_cons (pv 6) (pa_cons (pv 4) pa_nil))) pa_nil)) (by rfl)))))
  (pss_one (ps_ret (pv 2))))))), ?_⟩
  rcases h with ⟨bs, rfl, h1, h2, ⟨cs, rfl, k1, k2, hd, q⟩ | hu⟩ | hv
  · refine ⟨_, rfl, _, rfl, _, _, rfl, .inl ⟨bs, rfl, h1, h2, .inl ⟨cs, rfl, k1, k2, fun H1 s1 => ?_⟩⟩⟩
    by_cases ha : Alike bs cs
    · rw [decide_eq_true ha]
      exact ⟨_, rfl, iteT (q _ _ s1 (.inl ⟨rfl, ha⟩))⟩
    · rw [decide_eq_false ha]
      refine ⟨_, rfl, iteF ?_⟩
      obtain ⟨N, hN⟩ : ∃ n, aW bs n ≠ aW cs n := hd.resolve_left ha
      refine ⟨_, rfl, bs, rfl, h1, h2, fun H2 a s2 ha2 => ?_⟩
      refine ⟨_, rfl, cs, rfl, k1, k2, fun H3 b s3 hb3 => ?_⟩
      refine ⟨_, _, _, rfl, ?_⟩
      refine ⟨_, rfl, bs, rfl, h1, h2, fun H4 m s4 hm => ?_⟩
      refine ⟨_, rfl, cs, rfl, k1, k2, fun H5 m2 s5 hm2 => ?_⟩
      refine ⟨_, _, rfl, ?_⟩
      have hm5 := hm.same s5
      refine ⟨fun μ σ H6 => ∃ (k : Nat) (c d : Addr), μ + k = N ∧ σ = [some (.str (bS bs)), some (.str (bS cs)), some (.int k), some (.ref c), some (.ref d), some (.ref m), some (.ref m2)] ∧ Same H5 H6 ∧ H6 c = some (.lst (cntV bs k)) ∧ H6 d = some (.lst (cntV cs k)) ∧ ∀ j, j < k → aW bs j = aW cs j, ⟨N, 0, a, b, rfl, rfl, Same.refl _, s5 _ _ (s4 _ _ (s3 _ _ ha2)), s5 _ _ (s4 _ _ hb3), fun j hj => absurd hj (Nat.not_lt_zero _)⟩, ?_⟩
      rintro μ σ H6 ⟨k, c, d, eμ, rfl, s6, hc, hd', hj⟩
      obtain ⟨ns, e1, e2⟩ := cntV_sum (m := bs) (t := k)
      obtain ⟨ms, f1, f2⟩ := cntV_sum (m := cs) (t := k)
      have hc2 := hc
      have hd2 := hd'
      rw [e1] at hc2
      rw [f1] at hd2
      refine ⟨_, rfl, c, ns, rfl, .inl (.inl hc2), _, rfl, d, ms, rfl, .inl (.inl hd2), rfl, _, rfl, ?_⟩
      rw [e2, f2]
      by_cases he : aW bs k = aW cs k
      · refine iteET (by rw [he]) ?_
        have hkN : k ≠ N := fun e => hN (by rw [← e]; exact he)
        refine ⟨fun σ H => ∃ (k' : Nat) (c d : Addr), μ - 1 + k' = N ∧ σ = [some (.str (bS bs)), some (.str (bS cs)), some (.int k'), some (.ref c), some (.ref d), some (.ref m), some (.ref m2)] ∧ Same H5 H ∧ H c = some (.lst (cntV bs k')) ∧ H d = some (.lst (cntV cs k')) ∧ ∀ j, j < k' → aW bs j = aW cs j, fun σ' H' h => ⟨μ - 1, by omega, h⟩, ?_⟩
        refine ⟨_, rfl, _, _, rfl, rfl, ?_⟩
        refine ⟨_, rfl, _, rfl, m, c, bs, k, rfl, h1, h2, hm5.same s6, hc, fun H7 p s7 hp => ?_⟩
        refine ⟨_, rfl, _, rfl, m2, d, cs, k, rfl, k1, k2, hm2.same (s6.trans s7), s7 _ _ hd', fun H8 p2 s8 hp2 => ?_⟩
        refine ⟨_, _, rfl, k + 1, p, p2, by omega, by rw [Int.natCast_add]; rfl, (s6.trans s7).trans s8, s8 _ _ hp, hp2, fun j hj' => ?_⟩
        by_cases ej : j = k
        · rw [ej]; exact he
        · exact hj j (by omega)
      · refine iteEF (by omega) ?_
        exact ⟨_, rfl, q _ _ (((((s1.trans s2).trans s3).trans s4).trans s5).trans s6) (.inr ⟨k, rfl, ha, he, hj⟩)⟩
  · exact ⟨_, rfl, _, rfl, _, _, rfl, .inl ⟨bs, rfl, h1, h2, .inr hu⟩⟩
  · exact ⟨_, rfl, _, rfl, _, _, rfl, .inr hv⟩
end
end My

namespace My
open PySem PySem.Spec PyProof.Rows L2 Pre
/-! ### the law of marks: what it counts itself -/
theorem dtA_strs {H : Hp} : ∀ {l : List Str} {xs : List V}, DtA H xs (l.map PyData.str) → xs = l.map V.str
  | [], _, h => by cases h; rfl
  | x :: r, _, h => by
    rw [List.map_cons] at h
    cases h with
    | cons a b =>
      cases a
      rw [dtA_strs b]
      rfl
theorem turn_join {K : PySem.W.Frag} {Q : VK} {H : Hp} {bs : List Bool} {σ0 σ1 σ3 : Option V} (hz : bs.length ≤ 100) (q : ∀ H', Same H H' → Q (.str (bS (cm bs))) H') :
    tM1 (fun x xs H_1 Q => ∃ a p ys, x = V.str a ∧ xs = [V.ref p] ∧ (SqL K H_1 p (List.map V.str ys) ∨ SqT K H_1 p (List.map V.str ys)) ∧ (List.map (fun x => x.length) ys).sum + ys.length * a.length ≤ 16777216 ∧ Q (V.str (Txt.join a ys)) H_1) (tC (V.str (("" : String) : Str)))
      (tLc (iStr (tVar 2)) (gName 3) tYes (tOp rIxS (tC (V.str (("10" : String) : Str))) (tCB (fun xs H Q => ∃ a n, xs = [V.str a] ∧ intText? a = some n ∧ a.length ≤ 640 ∧ Q (V.int n) H) (tCons (tVar 3) tNil))) (List.map (fun x => x.snd) [((("_law_bit" : String) : Str), 3)]))
      [σ0, σ1, some (.str (bS bs)), σ3] H Q := by
  refine ⟨⟨_, rfl⟩, _, rfl, _, rfl, fun D nD => ?_⟩
  refine lc_dW walk_str (Has.nil (H := H)) (bs.map fun b => some (PyData.str (bS [!b]))) nD (by rw [List.length_map, bS_size]) (by rw [bS_size]; exact small4 (by omega)) (fun _ _ => trivial) ?_ ?_
  · rintro i o H0 x H' hi ho s0 hS ⟨rfl, c, hc, rfl⟩ Qt qt
    obtain ⟨b, hb, ec⟩ := bS_at hc
    rw [ec]
    rw [List.getElem?_map, hb] at ho
    cases ho
    refine ⟨rfl, ?_⟩
    unfold tYes
    dsimp only
    rw [if_pos (show true = true from rfl)]
    refine ⟨_, rfl, _, _, rfl, bit_int b, (by show 1 ≤ 640; decide), ?_⟩
    rw [str_10]
    refine ⟨_, _, sgn (!b), rfl, rfl, by rw [bS_len]; decide, other_at b, ?_⟩
    exact qt _ _ (Same.refl _) (.str _)
  · intro H' s hD hd
    rw [rs_nil, show (bs.map fun b => some (PyData.str (bS [!b]))).filterMap id = ((cm bs).map fun b => bS [b]).map PyData.str by
      rw [sel_map]
      unfold cm
      rw [List.map_map, List.map_map]
      rfl] at hd
    obtain ⟨_, xs, e, hxs, hx⟩ := hd.listE
    cases e
    rw [dtA_strs hx, ← sg_eq] at hxs
    obtain ⟨ys, j1, j2, j3⟩ := join_sg' (K := K) hxs (by rw [cm_len]; omega)
    refine ⟨_, D, ys, rfl, rfl, j1, j2, ?_⟩
    rw [j3]
    exact q _ s
local macro_rules | `(tactic| walk_at "go") => `(tactic| repeat (first | (with_reducible first | refine iteT ?_ | refine iteF ?_ | refine iteNtt ?_ | refine iteNff ?_ | refine iteET (by omega) ?_ | refine iteEF (by omega) ?_ | refine iteENT (by omega) ?_ | refine iteENF (by omega) ?_ | refine iteDT (by omega) ?_ | refine iteDF (by omega) ?_ | refine iteNT (by omega) ?_ | refine iteNF (by omega) ?_) | refine ⟨_, rfl, ?_⟩ | refine ⟨_, _, rfl, rfl, ?_⟩ | refine ⟨_, _, rfl, ?_⟩ | refine ⟨rfl, ?_⟩ | refine .inl ⟨_, rfl, ?_⟩ | refine .inr ⟨_, rfl, ?_⟩))
local macro_rules | `(tactic| walk_at "b") => `(tactic| try dsimp (config := { proj := false, iota := false, eta := false, zeta := false }) only)
section
variable {P : Program} {w : World} {K : PySem.W.Frag} {mg : Str → Option Value} {base : Heap} [pf : Sup.PF P fileS]
def sp_law_borders : Sp := fun vs H Q _ => ∃ bs : List Bool, vs = [.str (bS bs)] ∧ 1 ≤ bs.length ∧ bs.length ≤ 100 ∧ ∀ H' a, Same H H' → H a = none → H' a = some (.lst ((nI (bord bs)).map V.int)) → Q (.ref a) H'
theorem G_law_borders (T : Top K mg) : FnOk P w K mg base CX0 1 T.f_law_borders T.fd_law_borders ["_law_mark_here"] sp_law_borders := by
  refine T.F_law_borders.ok sc_law_borders (fun vs H Q E h => by obtain ⟨bs, rfl, _⟩ := h; rfl) (fun cdv A outer s H vs Q E hr h => ?_)
  obtain ⟨bs, rfl, h1, h2, q⟩ := h
  refine ⟨_, PSs.nox (pss_one (ps_ret (pe_lc (own := [("_law_wide", 1)]) (g := gName 1) (by rfl) sc_law_borders.nd (pi_range2 (by rfl) T.n_range (pa_cons pe_int (pa_cons (pe_callB call_len_str (by rfl) T.n_len (by decide +kernel) (pa_cons (pv 0) pa_nil)) pa_nil))) (blkOk_by (own := [("_law_wide", 1)]) (N := N_law_borders) (sc := defScope s_law_borders) (by decide +kernel)) (fun _ _ _ _ _ => (pg_name (i := 1) sc_law_borders.nd rfl (by first | exact Or.inl rfl | exact Or.inr rfl))) (fun _ _ _ _ _ => (pts_one (pt_val (pe_m1 PySem.F.slot_str_startswith PySem.F.type_str_startswith mt_startswith (pv 0) (pe_slice sl_str (pv 0) (po_some (pe_op op_sub (pe_callB call_len_str (by rfl) T.n_len (by decide +kernel) (pa_cons (pv 0) pa_nil)) (pv 1))) po_none))))) (fun _ _ _ _ _ => (pv 1))))), ?_⟩
  have hl : (bS bs).length = bs.length := bS_len bs
  refine ⟨_, rfl, _, rfl, by rw [hl, sizeLine_eq]; omega, ?_⟩
  rw [hl]
  refine ⟨_, _, rfl, ⟨by decide, by decide, by omega, by omega⟩, fun D nD => ?_⟩
  rw [show (((bs.length : Nat) : Int) - 1).toNat = bs.length - 1 by omega]
  refine lc_selR (lo := 1) (n := bs.length - 1) (bordO bs) nD (by unfold bordO; rw [List.length_map, List.length_range]) (small4 (by omega)) (fun x => rfl) ?_ ?_
  · intro i o H' hi ho s Qt qt
    unfold bordO at ho
    rw [List.getElem?_map, List.getElem?_range hi] at ho
    cases ho
    dsimp only at qt
    rw [show (1 : Int) + (i : Nat) = ((i + 1 : Nat) : Int) by omega]
    refine ⟨_, rfl, ⟨_, rfl⟩, _, rfl, _, rfl, _, rfl, by rw [hl, sizeLine_eq]; omega, _, rfl, _, _, rfl, rfl, _, rfl, _, rfl, by rw [hl, sizeLine_eq]; omega, ?_⟩
    dsimp only
    rw [hl, show ((bs.length : Int) - ((i + 1 : Nat) : Int)) = ((bs.length - (i + 1) : Nat) : Int) by omega, cut_bSd]
    refine ⟨_, _, rfl, rfl, _, rfl, ?_⟩
    rw [starts_bS, starts_b bs (by omega)]
    by_cases c : isB bs (i + 1) = true
    · rw [if_pos c] at qt
      rw [c]
      exact iteT ⟨_, rfl, qt _ (Same.refl _)⟩
    · rw [if_neg c] at qt
      rw [Bool.eq_false_iff.mpr c]
      exact iteF (qt _ (Same.refl _))
  · intro H2 s2 hD
    rw [bordO_fm] at hD
    exact q H2 D s2 nD hD
def sp_law_without : Sp := fun vs H Q _ => ∃ (bs : List Bool) (n : Nat), vs = [.str (bS bs), .int n] ∧ bs.length ≤ 100 ∧ n ≤ 12 ∧ ∀ H', Same H H' → Q (.int (aW bs n)) H'
theorem G_law_without (T : Top K mg) : FnOk P w K mg base CX0 2 T.f_law_without T.fd_law_without ["_law_mark_here", "_law_many"] sp_law_without := by
  refine T.F_law_without.ok sc_law_without (fun vs H Q E h => by obtain ⟨bs, n, rfl, _⟩ := h; rfl) (fun cdv A outer s H vs Q E hr h => ?_)
  obtain ⟨bs, n, rfl, h1, h2, q⟩ := h
  refine ⟨_, PSs.nox (pss_one (ps_ret (pe_callB (k_len K rfl) (by rfl) T.n_len (by decide +kernel) (pa_cons (pe_lc (own := [("_law_word", 2)]) (g := gName 2) (by rfl) sc_law_without.nd (k_piL K rfl (pe_call (G_law_words (P := P) T) (hr.mono (by decide)) (by rfl) T.g_law_words T.F_law_words.kp T.b_law_words .nil pass0 (pa_cons (pv 1) pa_nil))) (blkOk_by (own := [("_law_word", 2)]) (N := N_law_without) (sc := defScope s_law_without) (by decide +kernel)) (fun _ _ _ _ _ => (pg_name (i := 2) sc_law_without.nd rfl (by first | exact Or.inl rfl | exact Or.inr rfl))) (fun _ _ _ _ _ => (pts_one (pt_cmpR op_notin_str (pv 0) (pv 2) (by rfl)))) (fun _ _ _ _ _ => (pv 2))) pa_nil)))), ?_⟩
  refine ⟨_, rfl, n, rfl, h2, fun H1 c s1 nc hc => ?_⟩
  have hp : 2 ^ n ≤ 2 ^ 12 := Nat.pow_le_pow_right (by decide) h2
  refine ⟨c, rfl, ⟨_, .inl (.inl hc)⟩, fun D nD => ?_⟩
  refine lc_selL (K := K) (xs := (wds n).map fun x => V.str (bS x)) ((wds n).map fun x => if decide (¬ bs <:+: x) = true then some (V.str (bS x)) else none) nD (.inl (.inl hc)) (by rw [List.length_map, List.length_map]) (by rw [List.length_map, wds_len]; exact small4 (by omega)) (fun x => rfl) ?_ ?_
  · intro j x o H' hx ho s Qt qt
    rw [List.getElem?_map] at hx ho
    obtain ⟨y, hy, rfl⟩ := Option.map_eq_some_iff.mp hx
    rw [hy] at ho
    cases ho
    have ly : y.length = n := (wds_mem n y).mp (List.mem_of_getElem? hy)
    dsimp only at qt
    refine ⟨_, rfl, _, rfl, _, _, rfl, rfl, _, rfl, ?_⟩
    rw [in_bS]
    by_cases c : bs <:+: y
    · rw [if_neg (by rw [decide_eq_false fun z => z c]; decide)] at qt
      rw [decide_eq_true c]
      exact iteF (qt _ (Same.refl _))
    · rw [if_pos (decide_eq_true c)] at qt
      rw [decide_eq_false c]
      exact iteT ⟨_, rfl, qt _ (Same.refl _)⟩
  · intro H2 s2 hD
    refine ⟨D, _, rfl, .inl (.inl (.inl hD)), ?_⟩
    have e : (((wds n).map fun x => if decide (¬ bs <:+: x) = true then some (V.str (bS x)) else none).filterMap id).length = aW bs n := by
      unfold aW
      generalize wds n = l
      induction l with
      | nil => rfl
      | cons x r ih =>
        rw [List.map_cons, List.filterMap_cons, List.countP_cons]
        by_cases c : decide (¬ bs <:+: x) = true
        · rw [if_pos c, if_pos c, ← ih]
          rfl
        · rw [if_neg c, if_neg c, ← ih]
          rfl
    rw [e]
    exact q _ (s1.trans s2)
/-- a mark turned one of four ways -/
def turnB (bs : List Bool) (k : Nat) : List Bool := if k > 1 then cm (if k % 2 = 1 then bs.reverse else bs) else if k % 2 = 1 then bs.reverse else bs
def sp_law_turned : Sp := fun vs H Q _ => ∃ (bs : List Bool) (k : Nat), vs = [.str (bS bs), .int k] ∧ bs.length ≤ 100 ∧ k < 4 ∧ ∀ H', Same H H' → Q (.str (bS (turnB bs k))) H'
theorem G_law_turned (T : Top K mg) : FnOk P w K mg base CX0 1 T.f_law_turned T.fd_law_turned ["_law_mark_here", "_law_way"] sp_law_turned := by
  refine T.F_law_turned.ok sc_law_turned (fun vs H Q E h => by obtain ⟨bs, k, rfl, _⟩ := h; rfl) (fun cdv A outer s H vs Q E hr h => ?_)
  obtain ⟨bs, k, rfl, h1, h2, q⟩ := h
  refine ⟨_, PSs.nox (pss_cons (ps_set (i := 2) sc_law_turned.nd rfl (by first | exact Or.inl rfl | exact Or.inr rfl) (pe_ifExp (pt_cmpR op_eq (pe_op op_mod (pv 1) pe_int) pe_int (nomark _)) (pe_revS (pv 0)) (pv 0)))
  (pss_one (ps_ret (pe_ifExp (pt_cmpR op_gt (pv 1) pe_int (nomark _)) (pe_join pe_str (pe_lc (own := [("_law_bit", 3)]) (g := gName 3) (tt := tYes) (by rfl) sc_law_turned.nd (pi_str (pv 2)) (blkOk_by (own := [("_law_bit", 3)]) (N := N_law_turned) (sc := defScope s_law_turned) (by decide +kernel)) (fun _ _ _ _ _ => (pg_name (i := 3) sc_law_turned.nd rfl (by first | exact Or.inl rfl | exact Or.inr rfl))) (fun _ _ _ _ _ => pts_nil) (fun _ _ _ _ _ => (pe_ix ix_str pe_str (pe_callTy call_int_str (by rfl) T.n_int (by decide +kernel) (pa_cons (pv 3) pa_nil)) (fun _ _ => rfl))))) (pv 2))))), ?_⟩
  refine ⟨_, rfl, _, _, rfl, rfl, (show (0 : Int) < 2 by decide), rfl, _, rfl, ?_⟩
  unfold turnB at q
  by_cases hk : k % 2 = 1
  · rw [if_pos hk] at q
    refine iteET (by omega) ⟨_, rfl, _, rfl, by rw [bS_len, sizeLine_eq]; omega, ?_⟩
    rw [revS_bS]
    have hc : bs.reverse.length ≤ 100 := by rw [List.length_reverse]; exact h1
    generalize bs.reverse = c at *
    refine ⟨_, rfl, _, _, rfl, rfl, _, rfl, ?_⟩
    by_cases h : k > 1
    · rw [if_pos h] at q
      refine iteDT (by omega) ?_
      exact turn_join hc q
    · rw [if_neg h] at q
      exact iteDF (by omega) ⟨_, rfl, q _ (Same.refl _)⟩
  · rw [if_neg hk] at q
    refine iteEF (by omega) ⟨_, rfl, ?_⟩
    refine ⟨_, rfl, _, _, rfl, rfl, _, rfl, ?_⟩
    by_cases h : k > 1
    · rw [if_pos h] at q
      refine iteDT (by omega) ?_
      exact turn_join h1 q
    · rw [if_neg h] at q
      exact iteDF (by omega) ⟨_, rfl, q _ (Same.refl _)⟩
end
end My

namespace My
open PySem PySem.Spec PyProof.Rows L2 Pre
local macro_rules | `(tactic| walk_at "go") => `(tactic| repeat (first | (with_reducible first | refine iteT ?_ | refine iteF ?_ | refine iteNtt ?_ | refine iteNff ?_ | refine iteET (by omega) ?_ | refine iteEF (by omega) ?_ | refine iteENT (by omega) ?_ | refine iteENF (by omega) ?_ | refine iteDT (by omega) ?_ | refine iteDF (by omega) ?_ | refine iteNT (by omega) ?_ | refine iteNF (by omega) ?_) | refine ⟨_, rfl, ?_⟩ | refine ⟨_, _, rfl, rfl, ?_⟩ | refine ⟨_, _, rfl, ?_⟩ | refine ⟨rfl, ?_⟩ | refine .inl ⟨_, rfl, ?_⟩ | refine .inr ⟨_, rfl, ?_⟩))
local macro_rules | `(tactic| walk_at "b") => `(tactic| try dsimp (config := { proj := false, iota := false, eta := false, zeta := false }) only)
section
variable {P : Program} {w : World} {K : PySem.W.Frag} {mg : Str → Option Value} {base : Heap} [pf : Sup.PF P fileS]
def sp_law_caught (K : PySem.W.Frag) : Sp := fun vs H Q _ => ∃ (k : Nat) (v u : V), vs = [.int k, v, u] ∧
  ((k < 6 ∧ MarkV K H v false ∧ ∀ H' a, Same H H' → H a = none → H' a = some (.lst [.str (("mark" : String) : Str), v]) → Q (.ref a) H') ∨
   ((k = 4 ∨ k = 5) ∧ (∃ bs : List Bool, v = .str (bS bs) ∧ 2 ≤ bs.length ∧ bs.length ≤ 16) ∧ MarkV K H u false ∧ ∀ H' a, Same H H' → H a = none → H' a = some (.lst [.str (("mark" : String) : Str), u]) → Q (.ref a) H') ∨
   (k = 3 ∧ (∃ bs : List Bool, v = .str (bS bs) ∧ 2 ≤ bs.length ∧ bs.length ≤ 16) ∧ NumV K H u 0 (some 1000) false ∧ ∀ H' a, Same H H' → H a = none → H' a = some (.lst [.str (("number" : String) : Str), u]) → Q (.ref a) H') ∨
   (k = 6 ∧ NumV K H u 2 (some 1000) false ∧ ∀ H' a, Same H H' → H a = none → H' a = some (.lst [.str (("number" : String) : Str), u]) → Q (.ref a) H'))
theorem G_law_caught (T : Top K mg) : FnOk P w K mg base CX0 7 T.f_law_caught T.fd_law_caught ["_law_way", "_law_mark_here", "_law_many"] (sp_law_caught K) := by
  refine T.F_law_caught.ok sc_law_caught (fun vs H Q E h => by obtain ⟨k, v, u, rfl, _⟩ := h; rfl) (fun cdv A outer s H vs Q E hr h => ?_)
  obtain ⟨k, v, u, rfl, h⟩ := h
  refine ⟨_, PSs.nox (pss_cons (ps_set (i := 3) sc_law_caught.nd rfl (by first | exact Or.inl rfl | exact Or.inr rfl) (pe_lst (pa_cons pe_str (pa_cons pe_non pa_nil))))
  (pss_cons (ps_try_manyAs (i := 4) rfl rfl sc_law_caught.nd rfl rfl takes_none5 (fun W pn xe tk po => (pss_one (ps_if (pt_cmpR op_eq (pv 0) pe_int (nomark _))
    (pss_one (ps_expr (pe_callS (G_borders (P := P) T) (hr.mono (by decide)) (by rfl) T.g_borders T.F_borders.kp T.b_borders (fun σ => passAt tk σ) (pa_cons (pv 1) pa_nil))))
    (pss_one (ps_if (pt_cmpR op_eq (pv 0) pe_int (nomark _))
    (pss_one (ps_expr (pe_callS (G_is_free (P := P) T) (hr.mono (by decide)) (by rfl) T.g_is_free T.F_is_free.kp T.b_is_free (fun σ => passAt tk σ) (pa_cons (pv 1) pa_nil))))
    (pss_one (ps_if (pt_cmpR op_eq (pv 0) pe_int (nomark _))
    (pss_one (ps_expr (pe_callS (G_is_keepable (P := P) T) (hr.mono (by decide)) (by rfl) T.g_is_keepable T.F_is_keepable.kp T.b_is_keepable (fun σ => passAt tk σ) (pa_cons (pv 1) pa_nil))))
    (pss_one (ps_if (pt_cmpR op_eq (pv 0) pe_int (nomark _))
    (pss_one (ps_expr (pe_callS (G_rows_without (P := P) T) (hr.mono (by decide)) (by rfl) T.g_rows_without T.F_rows_without.kp T.b_rows_without (fun σ => passAt tk σ) (pa_cons (pv 1) (pa_cons (pv 2) pa_nil)))))
    (pss_one (ps_if (pt_cmpR op_eq (pv 0) pe_int (nomark _))
    (pss_one (ps_expr (pe_callS (G_same_marks (P := P) T) (hr.mono (by decide)) (by rfl) T.g_same_marks T.F_same_marks.kp T.b_same_marks (fun σ => passAt tk σ) (pa_cons (pv 1) (pa_cons (pv 2) pa_nil)))))
    (pss_one (ps_if (pt_cmpR op_eq (pv 0) pe_int (nomark _))
    (pss_one (ps_expr (pe_callS (G_parting_length (P := P) T) (hr.mono (by decide)) (by rfl) T.g_parting_length T.F_parting_length.kp T.b_parting_length (fun σ => passAt tk σ) (pa_cons (pv 1) (pa_cons (pv 2) pa_nil)))))
    (pss_one (ps_expr (pe_callS (G_how_many_free (P := P) T) (hr.mono (by decide)) (by rfl) T.g_how_many_free T.F_how_many_free.kp T.b_how_many_free (fun σ => passAt tk σ) (pa_cons (pv 2) pa_nil)))))))))))))))))
    (HdsAs.cons ⟨by rfl, by decide, .inl T.gc_InvalidMark⟩ (fun a oe cls d pn hz hf => (pss_one (ps_set (i := 3) sc_law_caught.nd rfl (by first | exact Or.inl rfl | exact Or.inr rfl) (pe_lst (pa_cons pe_str (pa_cons (pe_xfA hz hf (pv 4)) pa_nil)))))) (HdsAs.cons ⟨by rfl, by decide, .inl T.gc_InvalidNumber⟩ (fun a oe cls d pn hz hf => (pss_one (ps_set (i := 3) sc_law_caught.nd rfl (by first | exact Or.inl rfl | exact Or.inr rfl) (pe_lst (pa_cons pe_str (pa_cons (pe_xfA hz hf (pv 4)) pa_nil)))))) HdsAs.nil)))
  (pss_one (ps_ret (pv 3))))), ?_⟩
  refine ⟨(by show 2 ≤ sizeLine; decide), fun a0 na0 => ?_⟩
  obtain ⟨H1, e1, s1, ha1⟩ := fresh (.lst [V.str (("none" : String) : Str), V.non]) na0
  rw [e1]
  rcases h with ⟨hk, hv, q⟩ | ⟨hk, ⟨bs, rfl, g1, g2⟩, hu, q⟩ | ⟨rfl, ⟨bs, rfl, g1, g2⟩, hu, q⟩ | ⟨rfl, hu, q⟩
  · obtain rfl | rfl | rfl | rfl | rfl | rfl : k = 0 ∨ k = 1 ∨ k = 2 ∨ k = 3 ∨ k = 4 ∨ k = 5 := by omega
    · refine ⟨_, rfl, rfl, _, rfl, iteDT rfl ⟨_, rfl, _, rfl, .inr ⟨hv.same s1, fun H2 d s2 nd => ?_⟩⟩⟩
      refine ⟨true, T.em_InvalidMark_InvalidMark, fun _ a na => ?_, fun z => nomatch z⟩
      refine ⟨_, rfl, rfl, _, rfl, T.er_InvalidMark.xf, T.er_InvalidMark.sup.nov, d, _, _, rfl, upd_same, rfl, (by show 2 ≤ sizeLine; decide), fun p np => ?_⟩
      exact ⟨_, rfl, q _ p (((s1.trans s2).trans (same_upd nd)).trans (same_upd np)) (((s1.trans s2).trans (same_upd nd)).free np) upd_same⟩
    · refine ⟨_, rfl, rfl, _, rfl, iteDF (by intro z; cases z) ⟨_, rfl, rfl, _, rfl, iteDT rfl ⟨_, rfl, _, rfl, .inr ⟨hv.same s1, fun H2 d s2 nd => ?_⟩⟩⟩⟩
      refine ⟨true, T.em_InvalidMark_InvalidMark, fun _ a na => ?_, fun z => nomatch z⟩
      refine ⟨_, rfl, rfl, _, rfl, T.er_InvalidMark.xf, T.er_InvalidMark.sup.nov, d, _, _, rfl, upd_same, rfl, (by show 2 ≤ sizeLine; decide), fun p np => ?_⟩
      exact ⟨_, rfl, q _ p (((s1.trans s2).trans (same_upd nd)).trans (same_upd np)) (((s1.trans s2).trans (same_upd nd)).free np) upd_same⟩
    · refine ⟨_, rfl, rfl, _, rfl, iteDF (by intro z; cases z) ⟨_, rfl, rfl, _, rfl, iteDF (by intro z; cases z) ⟨_, rfl, rfl, _, rfl, iteDT rfl ⟨_, rfl, _, rfl, .inr ⟨hv.same s1, fun H2 d s2 nd => ?_⟩⟩⟩⟩⟩
      refine ⟨true, T.em_InvalidMark_InvalidMark, fun _ a na => ?_, fun z => nomatch z⟩
      refine ⟨_, rfl, rfl, _, rfl, T.er_InvalidMark.xf, T.er_InvalidMark.sup.nov, d, _, _, rfl, upd_same, rfl, (by show 2 ≤ sizeLine; decide), fun p np => ?_⟩
      exact ⟨_, rfl, q _ p (((s1.trans s2).trans (same_upd nd)).trans (same_upd np)) (((s1.trans s2).trans (same_upd nd)).free np) upd_same⟩
    · refine ⟨_, rfl, rfl, _, rfl, iteDF (by intro z; cases z) ⟨_, rfl, rfl, _, rfl, iteDF (by intro z; cases z) ⟨_, rfl, rfl, _, rfl, iteDF (by intro z; cases z) ⟨_, rfl, rfl, _, rfl, iteDT rfl ⟨_, rfl, _, rfl, _, _, rfl, .inr ⟨hv.same s1, fun H2 d s2 nd => ?_⟩⟩⟩⟩⟩⟩
      refine ⟨true, T.em_InvalidMark_InvalidMark, fun _ a na => ?_, fun z => nomatch z⟩
      refine ⟨_, rfl, rfl, _, rfl, T.er_InvalidMark.xf, T.er_InvalidMark.sup.nov, d, _, _, rfl, upd_same, rfl, (by show 2 ≤ sizeLine; decide), fun p np => ?_⟩
      exact ⟨_, rfl, q _ p (((s1.trans s2).trans (same_upd nd)).trans (same_upd np)) (((s1.trans s2).trans (same_upd nd)).free np) upd_same⟩
    · refine ⟨_, rfl, rfl, _, rfl, iteDF (by intro z; cases z) ⟨_, rfl, rfl, _, rfl, iteDF (by intro z; cases z) ⟨_, rfl, rfl, _, rfl, iteDF (by intro z; cases z) ⟨_, rfl, rfl, _, rfl, iteDF (by intro z; cases z) ⟨_, rfl, rfl, _, rfl, iteDT rfl ⟨_, rfl, _, rfl, _, _, rfl, .inr ⟨hv.same s1, fun H2 d s2 nd => ?_⟩⟩⟩⟩⟩⟩⟩
      refine ⟨true, T.em_InvalidMark_InvalidMark, fun _ a na => ?_, fun z => nomatch z⟩
      refine ⟨_, rfl, rfl, _, rfl, T.er_InvalidMark.xf, T.er_InvalidMark.sup.nov, d, _, _, rfl, upd_same, rfl, (by show 2 ≤ sizeLine; decide), fun p np => ?_⟩
      exact ⟨_, rfl, q _ p (((s1.trans s2).trans (same_upd nd)).trans (same_upd np)) (((s1.trans s2).trans (same_upd nd)).free np) upd_same⟩
    · refine ⟨_, rfl, rfl, _, rfl, iteDF (by intro z; cases z) ⟨_, rfl, rfl, _, rfl, iteDF (by intro z; cases z) ⟨_, rfl, rfl, _, rfl, iteDF (by intro z; cases z) ⟨_, rfl, rfl, _, rfl, iteDF (by intro z; cases z) ⟨_, rfl, rfl, _, rfl, iteDF (by intro z; cases z) ⟨_, rfl, rfl, _, rfl, iteDT rfl ⟨_, rfl, _, rfl, _, _, rfl, .inr ⟨hv.same s1, fun H2 d s2 nd => ?_⟩⟩⟩⟩⟩⟩⟩⟩
      refine ⟨true, T.em_InvalidMark_InvalidMark, fun _ a na => ?_, fun z => nomatch z⟩
      refine ⟨_, rfl, rfl, _, rfl, T.er_InvalidMark.xf, T.er_InvalidMark.sup.nov, d, _, _, rfl, upd_same, rfl, (by show 2 ≤ sizeLine; decide), fun p np => ?_⟩
      exact ⟨_, rfl, q _ p (((s1.trans s2).trans (same_upd nd)).trans (same_upd np)) (((s1.trans s2).trans (same_upd nd)).free np) upd_same⟩
  · obtain rfl | rfl := hk
    · refine ⟨_, rfl, rfl, _, rfl, iteDF (by intro z; cases z) ⟨_, rfl, rfl, _, rfl, iteDF (by intro z; cases z) ⟨_, rfl, rfl, _, rfl, iteDF (by intro z; cases z) ⟨_, rfl, rfl, _, rfl, iteDF (by intro z; cases z) ⟨_, rfl, rfl, _, rfl, iteDT rfl ⟨_, rfl, _, rfl, _, _, rfl, .inl ⟨bs, rfl, g1, g2, .inr ⟨hu.same s1, fun H2 d s2 nd => ?_⟩⟩⟩⟩⟩⟩⟩⟩
      refine ⟨true, T.em_InvalidMark_InvalidMark, fun _ a na => ?_, fun z => nomatch z⟩
      refine ⟨_, rfl, rfl, _, rfl, T.er_InvalidMark.xf, T.er_InvalidMark.sup.nov, d, _, _, rfl, upd_same, rfl, (by show 2 ≤ sizeLine; decide), fun p np => ?_⟩
      exact ⟨_, rfl, q _ p (((s1.trans s2).trans (same_upd nd)).trans (same_upd np)) (((s1.trans s2).trans (same_upd nd)).free np) upd_same⟩
    · refine ⟨_, rfl, rfl, _, rfl, iteDF (by intro z; cases z) ⟨_, rfl, rfl, _, rfl, iteDF (by intro z; cases z) ⟨_, rfl, rfl, _, rfl, iteDF (by intro z; cases z) ⟨_, rfl, rfl, _, rfl, iteDF (by intro z; cases z) ⟨_, rfl, rfl, _, rfl, iteDF (by intro z; cases z) ⟨_, rfl, rfl, _, rfl, iteDT rfl ⟨_, rfl, _, rfl, _, _, rfl, .inl ⟨bs, rfl, g1, g2, .inr ⟨hu.same s1, fun H2 d s2 nd => ?_⟩⟩⟩⟩⟩⟩⟩⟩⟩
      refine ⟨true, T.em_InvalidMark_InvalidMark, fun _ a na => ?_, fun z => nomatch z⟩
      refine ⟨_, rfl, rfl, _, rfl, T.er_InvalidMark.xf, T.er_InvalidMark.sup.nov, d, _, _, rfl, upd_same, rfl, (by show 2 ≤ sizeLine; decide), fun p np => ?_⟩
      exact ⟨_, rfl, q _ p (((s1.trans s2).trans (same_upd nd)).trans (same_upd np)) (((s1.trans s2).trans (same_upd nd)).free np) upd_same⟩
  · refine ⟨_, rfl, rfl, _, rfl, iteDF (by intro z; cases z) ⟨_, rfl, rfl, _, rfl, iteDF (by intro z; cases z) ⟨_, rfl, rfl, _, rfl, iteDF (by intro z; cases z) ⟨_, rfl, rfl, _, rfl, iteDT rfl ⟨_, rfl, _, rfl, _, _, rfl, .inl ⟨bs, rfl, g1, g2, .inr ⟨hu.same s1, fun H2 d s2 nd => ?_⟩⟩⟩⟩⟩⟩⟩
    refine ⟨false, T.em_InvalidNumber_InvalidMark, (fun z => nomatch z), fun _ => ⟨true, T.em_InvalidNumber_InvalidNumber, fun _ a na => ?_, fun z => nomatch z⟩⟩
    refine ⟨_, rfl, rfl, _, rfl, T.er_InvalidNumber.xf, T.er_InvalidNumber.sup.nov, d, _, _, rfl, upd_same, rfl, (by show 2 ≤ sizeLine; decide), fun p np => ?_⟩
    exact ⟨_, rfl, q _ p (((s1.trans s2).trans (same_upd nd)).trans (same_upd np)) (((s1.trans s2).trans (same_upd nd)).free np) upd_same⟩
  · refine ⟨_, rfl, rfl, _, rfl, iteDF (by intro z; cases z) ⟨_, rfl, rfl, _, rfl, iteDF (by intro z; cases z) ⟨_, rfl, rfl, _, rfl, iteDF (by intro z; cases z) ⟨_, rfl, rfl, _, rfl, iteDF (by intro z; cases z) ⟨_, rfl, rfl, _, rfl, iteDF (by intro z; cases z) ⟨_, rfl, rfl, _, rfl, iteDF (by intro z; cases z) ⟨_, rfl, _, rfl, .inr ⟨hu.same s1, fun H2 d s2 nd => ?_⟩⟩⟩⟩⟩⟩⟩⟩
    refine ⟨false, T.em_InvalidNumber_InvalidMark, (fun z => nomatch z), fun _ => ⟨true, T.em_InvalidNumber_InvalidNumber, fun _ a na => ?_, fun z => nomatch z⟩⟩
    refine ⟨_, rfl, rfl, _, rfl, T.er_InvalidNumber.xf, T.er_InvalidNumber.sup.nov, d, _, _, rfl, upd_same, rfl, (by show 2 ≤ sizeLine; decide), fun p np => ?_⟩
    exact ⟨_, rfl, q _ p (((s1.trans s2).trans (same_upd nd)).trans (same_upd np)) (((s1.trans s2).trans (same_upd nd)).free np) upd_same⟩
end
end My

namespace My
open PySem PySem.Spec PyProof.Rows L2 Pre
/-! ### the law of marks: what is refused -/
/-- what is shown of a thing -/
def Shw (K : PySem.W.Frag) (H : Hp) (x : V) (t : Str) : Prop := (∃ d, Dp K H x d ∧ d.showable = true ∧ SeqAt.shaped d = true ∧ d.shown.length ≤ sizeLine ∧ t = d.shown) ∨ ∃ a : Addr, x = .ref a ∧ H a = some (.dK []) ∧ t = (PyData.dict []).shown
theorem Shw.same {K : PySem.W.Frag} {H H' : Hp} {x : V} {t : Str} (s : Same H H') (h : Shw K H x t) : Shw K H' x t := by
  rcases h with ⟨d, hd, h⟩ | ⟨a, e, ha, h⟩
  · exact .inl ⟨d, Pre.dp_same s _ _ hd, h⟩
  · exact .inr ⟨a, e, s _ _ ha, h⟩
theorem Shw.repr {K : PySem.W.Frag} {H : Hp} {x : V} {t : Str} {Q : VK} (h : Shw K H x t) (q : Q (.str t) H) : rReprX K [x] H Q := by
  rcases h with ⟨d, hd, h1, h2, h3, rfl⟩ | ⟨a, rfl, ha, rfl⟩
  · exact .inl ⟨x, d, rfl, hd, h1, h2, h3, q⟩
  · exact .inr ⟨a, rfl, ha, q⟩
/-- a pair that tells what was refused -/
def Told (tag : Str) (x : V) (D : Addr) (y : V) (H : Hp) : Prop := ∃ a : Addr, y = .ref a ∧ a ≠ D ∧ H a = some (.lst [.str tag, x])
theorem Told.mono {tag : Str} {x y : V} {D : Addr} {H H' : Hp} (o : Off D H H') (h : Told tag x D y H) : Told tag x D y H' := by
  obtain ⟨a, e, n, ha⟩ := h
  exact ⟨a, e, n, o _ _ n ha⟩
theorem at1 {α : Type} (x y : α) (r : List α) : atI (x :: y :: r) 1 = some y := atI_nat (xs := x :: y :: r) (j := 1) rfl
theorem shw_str {K : PySem.W.Frag} {H : Hp} (x : Str) (h1 : (PyData.str x).showable = true := by decide +kernel) (h2 : SeqAt.shaped (.str x) = true := by decide +kernel) (h3 : (PyData.str x).shown.length ≤ sizeLine := by decide +kernel) : ∃ t, Shw K H (.str x) t := ⟨_, .inl ⟨.str x, .str x, h1, h2, h3, rfl⟩⟩
theorem shw_non {K : PySem.W.Frag} {H : Hp} : ∃ t, Shw K H .non t := ⟨_, .inl ⟨.none, .non, by decide +kernel, by decide +kernel, by decide +kernel, rfl⟩⟩
theorem shw_bl {K : PySem.W.Frag} {H : Hp} : ∃ t, Shw K H (.bl true) t := ⟨_, .inl ⟨.bool true, .bl true, by decide +kernel, by decide +kernel, by decide +kernel, rfl⟩⟩
theorem shw_int {K : PySem.W.Frag} {H : Hp} (i : Int) (h1 : (PyData.int i).showable = true := by decide +kernel) (h2 : SeqAt.shaped (.int i) = true := by decide +kernel) (h3 : (PyData.int i).shown.length ≤ sizeLine := by decide +kernel) : ∃ t, Shw K H (.int i) t := ⟨_, .inl ⟨.int i, .int i, h1, h2, h3, rfl⟩⟩
theorem bad_marks {K : PySem.W.Frag} {H : Hp} {l u d : Addr} (hl : H l = some (.lst [V.str (("1" : String) : Str), V.str (("0" : String) : Str)])) (hu : H u = some (.tup [V.str (("1" : String) : Str), V.str (("0" : String) : Str)])) (hd : H d = some (.dK [])) :
    ∀ x ∈ [V.non, .int 0, .bl true, .str (("" : String) : Str), .str (("1" : String) : Str), .str (Txt.mul (("0" : String) : Str) (17 : Nat)), .str (("102" : String) : Str), .str (("1 0" : String) : Str), .ref l, .ref u, .ref d], MarkV K H x false ∧ ∃ t, Shw K H x t := by
  intro x hx
  simp only [List.mem_cons, List.not_mem_nil, or_false] at hx
  rcases hx with rfl | rfl | rfl | rfl | rfl | rfl | rfl | rfl | rfl | rfl | rfl
  · exact ⟨.inr ⟨.inr ⟨_, .base .non, by decide +kernel⟩, rfl⟩, shw_non⟩
  · exact ⟨.inr ⟨.inr ⟨_, .base (.int 0), by decide +kernel⟩, rfl⟩, shw_int 0⟩
  · exact ⟨.inr ⟨.inr ⟨_, .base (.bl true), by decide +kernel⟩, rfl⟩, shw_bl⟩
  · exact ⟨.inl ⟨[], congrArg V.str str_nil, by decide, by decide⟩, shw_str _⟩
  · exact ⟨.inl ⟨[true], congrArg V.str str_one, by decide, by decide⟩, shw_str _⟩
  · exact ⟨.inl ⟨List.replicate 17 false, congrArg V.str (bS_mul 17), by decide, by decide⟩, shw_str _⟩
  · exact ⟨.inr ⟨.inl ⟨_, rfl, by decide +kernel, by decide +kernel, 2, 50, by decide +kernel, by decide +kernel⟩, rfl⟩, shw_str _⟩
  · exact ⟨.inr ⟨.inl ⟨_, rfl, by decide +kernel, by decide +kernel, 1, 32, by decide +kernel, by decide +kernel⟩, rfl⟩, shw_str _⟩
  · exact ⟨.inr ⟨.inr ⟨_, .base (.lst hl), by decide +kernel⟩, rfl⟩, _, .inl ⟨.list [.str (("1" : String) : Str), .str (("0" : String) : Str)], .lst (.inl (.inl hl)) (strs_dp [(("1" : String) : Str), (("0" : String) : Str)]), by decide +kernel, by decide +kernel, by decide +kernel, rfl⟩⟩
  · exact ⟨.inr ⟨.inr ⟨_, .base (.tup hu), by decide +kernel⟩, rfl⟩, _, .inl ⟨.tuple [.str (("1" : String) : Str), .str (("0" : String) : Str)], .tup (.inl (.inl hu)) (strs_dp [(("1" : String) : Str), (("0" : String) : Str)]), by decide +kernel, by decide +kernel, by decide +kernel, rfl⟩⟩
  · exact ⟨.inr ⟨.inr ⟨_, .base (.dK hd), by decide +kernel⟩, rfl⟩, _, .inr ⟨d, rfl, hd, rfl⟩⟩
theorem bad_nums {K : PySem.W.Frag} {H : Hp} {l : Addr} (hl : H l = some (.lst [V.int 3])) :
    ∀ x ∈ [V.non, .str (("3" : String) : Str), .int (-1), .int 1001, .bl true, .ref l, .int (10 ^ 30)], NumV K H x 0 (some 1000) false ∧ NumV K H x 2 (some 1000) false ∧ ∃ t, Shw K H x t := by
  intro x hx
  simp only [List.mem_cons, List.not_mem_nil, or_false] at hx
  have big : ∀ (i lo : Int), 1000 < i → NumV K H (.int i) lo (some 1000) false := fun i lo h => .inl ⟨i, rfl, (decide_eq_false fun z => by have := z.2 _ rfl; omega).symm⟩
  have low : ∀ (i lo : Int), i < lo → NumV K H (.int i) lo (some 1000) false := fun i lo h => .inl ⟨i, rfl, (decide_eq_false fun z => by have := z.1; omega).symm⟩
  rcases hx with rfl | rfl | rfl | rfl | rfl | rfl | rfl
  · exact ⟨.inr ⟨.inr ⟨_, .base .non, by decide +kernel⟩, rfl⟩, .inr ⟨.inr ⟨_, .base .non, by decide +kernel⟩, rfl⟩, shw_non⟩
  · exact ⟨.inr ⟨.inr ⟨_, .base (.str _), by decide +kernel⟩, rfl⟩, .inr ⟨.inr ⟨_, .base (.str _), by decide +kernel⟩, rfl⟩, shw_str _⟩
  · exact ⟨low _ _ (by decide), low _ _ (by decide), shw_int (-1)⟩
  · exact ⟨big _ _ (by decide), big _ _ (by decide), shw_int 1001⟩
  · exact ⟨.inr ⟨.inl ⟨true, rfl⟩, rfl⟩, .inr ⟨.inl ⟨true, rfl⟩, rfl⟩, shw_bl⟩
  · exact ⟨.inr ⟨.inr ⟨_, .base (.lst hl), by decide +kernel⟩, rfl⟩, .inr ⟨.inr ⟨_, .base (.lst hl), by decide +kernel⟩, rfl⟩, _, .inl ⟨.list [.int 3], .lst (.inl (.inl hl)) (Pre.dp_ints [3]), by decide +kernel, by decide +kernel, by decide +kernel, rfl⟩⟩
  · exact ⟨big _ _ (by decide), big _ _ (by decide), shw_int _⟩
local macro_rules | `(tactic| walk_at "go") => `(tactic| repeat (first | (with_reducible first | refine iteT ?_ | refine iteF ?_ | refine iteNtt ?_ | refine iteNff ?_ | refine iteET (by omega) ?_ | refine iteEF (by omega) ?_ | refine iteENT (by omega) ?_ | refine iteENF (by omega) ?_ | refine iteDT (by omega) ?_ | refine iteDF (by omega) ?_ | refine iteNT (by omega) ?_ | refine iteNF (by omega) ?_) | refine ⟨_, rfl, ?_⟩ | refine ⟨_, _, rfl, rfl, ?_⟩ | refine ⟨_, _, rfl, ?_⟩ | refine ⟨rfl, ?_⟩ | refine .inl ⟨_, rfl, ?_⟩ | refine .inr ⟨_, rfl, ?_⟩))
local macro_rules | `(tactic| walk_at "b") => `(tactic| try dsimp (config := { proj := false, iota := false, eta := false, zeta := false }) only)
section
variable {P : Program} {w : World} {K : PySem.W.Frag} {mg : Str → Option Value} {base : Heap} [pf : Sup.PF P fileS]
def sp_law_refused : Sp := fun vs H Q _ => vs = [] ∧ ∀ H', Same H H' → Q (.bl true) H'
theorem G_law_refused (T : Top K mg) : FnG P w K mg base CX0 8 T.f_law_refused T.fd_law_refused [] sp_law_refused := by
  refine FnG.body T.F_law_refused sc_law_refused (fun vs H Q E h => by obtain ⟨rfl, _⟩ := h; rfl) (fun cdv A outer s H vs Q E gd hr h => ?_)
  obtain ⟨rfl, q⟩ := h
  refine ⟨_, PSs.nox (pss_cons (ps_for PassesOwn.never rfl (k_piL K rfl (pe_lst (pa_cons pe_non (pa_cons pe_int (pa_cons pe_bl (pa_cons pe_str (pa_cons pe_str (pa_cons (pe_op op_rep_str pe_str pe_int) (pa_cons pe_str (pa_cons pe_str (pa_cons (pe_lst (pa_cons pe_str (pa_cons pe_str pa_nil))) (pa_cons (pe_tup (pa_cons pe_str (pa_cons pe_str pa_nil))) (pa_cons pe_dnewK pa_nil))))))))))))) (pg_name (i := 0) sc_law_refused.nd rfl (by first | exact Or.inl rfl | exact Or.inr rfl))
    (pss_cons (ps_for PassesOwn.never rfl (pi_range1 (by rfl) T.n_range (pa_cons pe_int pa_nil)) (pg_name (i := 1) sc_law_refused.nd rfl (by first | exact Or.inl rfl | exact Or.inr rfl))
    (pss_cons (ps_set (i := 2) sc_law_refused.nd rfl (by first | exact Or.inl rfl | exact Or.inr rfl) (pe_call (G_law_caught (P := P) T) (hr.mono (by decide)) (by rfl) T.g_law_caught T.F_law_caught.kp T.b_law_caught .nil pass0 (pa_cons (pv 1) (pa_cons (pv 0) (pa_cons pe_non pa_nil)))))
  (pss_one (ps_if (PW.pt (pw_or (pt_cmpR op_ne (pe_ix (k_ixL K rfl) (pv 2) pe_int (fun _ _ => rfl)) pe_str (nomark _)) (pw_or1 (pt_cmpR op_ne (pe_callB (k_reprX K rfl gd (hu65 hr)) (by rfl) T.n_repr (by decide +kernel) (pa_cons (pe_ix (k_ixL K rfl) (pv 2) pe_int (fun _ _ => rfl)) pa_nil)) (pe_callB (k_reprX K rfl gd (hu65 hr)) (by rfl) T.n_repr (by decide +kernel) (pa_cons (pv 0) pa_nil)) (nomark _)))))
    (pss_one (ps_ret pe_bl))
    pss_nil))))
  (pss_cons (ps_setLc (i := 2) (own := [("_law_way", 1)]) (g := gName 1) (tt := tYes) (by rfl) sc_law_refused.nd rfl rfl (sw_true rfl rfl rfl (by decide +kernel)) (k_piL K rfl (pe_lst (pa_cons pe_int (pa_cons pe_int pa_nil)))) (blkOk_by (own := [("_law_way", 1)]) (N := N_law_refused) (sc := defScope s_law_refused) (by decide +kernel)) (fun _ _ _ _ _ => (pg_name (i := 1) sc_law_refused.nd rfl (by first | exact Or.inl rfl | exact Or.inr rfl))) (fun _ _ _ _ _ => pts_nil) (fun _ _ _ _ _ => (pe_call (G_law_caught (P := P) T) (hr.mono (by decide)) (by rfl) T.g_law_caught T.F_law_caught.kp T.b_law_caught .nil pass0 (pa_cons (pv 1) (pa_cons pe_str (pa_cons (pv 0) pa_nil))))))
  (pss_one (ps_if (pt_cmpR (k_neD K rfl hr.units) (pe_lc (own := [("_law_one", 3)]) (g := gName 3) (by rfl) sc_law_refused.nd (k_piL K rfl (pv 2)) (blkOk_by (own := [("_law_one", 3)]) (N := N_law_refused) (sc := defScope s_law_refused) (by decide +kernel)) (fun _ _ _ _ _ => (pg_name (i := 3) sc_law_refused.nd rfl (by first | exact Or.inl rfl | exact Or.inr rfl))) (fun _ _ _ _ _ => (pts_one (PW.pt (pw_or (pt_cmpR op_ne (pe_ix (k_ixL K rfl) (pv 3) pe_int (fun _ _ => rfl)) pe_str (nomark _)) (pw_or1 (pt_cmpR op_ne (pe_callB (k_reprX K rfl gd (hu65 hr)) (by rfl) T.n_repr (by decide +kernel) (pa_cons (pe_ix (k_ixL K rfl) (pv 3) pe_int (fun _ _ => rfl)) pa_nil)) (pe_callB (k_reprX K rfl gd (hu65 hr)) (by rfl) T.n_repr (by decide +kernel) (pa_cons (pv 0) pa_nil)) (nomark _))))))) (fun _ _ _ _ _ => (pv 3))) (pe_lst pa_nil) (nomark _))
    (pss_one (ps_ret pe_bl))
    pss_nil)))))
  (pss_cons (ps_for PassesOwn.never rfl (k_piL K rfl (pe_lst (pa_cons pe_non (pa_cons pe_str (pa_cons (pe_un un_neg pe_int) (pa_cons pe_int (pa_cons pe_bl (pa_cons (pe_lst (pa_cons pe_int pa_nil)) (pa_cons (pe_op op_powW pe_int pe_int) pa_nil))))))))) (pg_name (i := 0) sc_law_refused.nd rfl (by first | exact Or.inl rfl | exact Or.inr rfl))
    (pss_cons (ps_set (i := 2) sc_law_refused.nd rfl (by first | exact Or.inl rfl | exact Or.inr rfl) (pe_lst (pa_cons (pe_call (G_law_caught (P := P) T) (hr.mono (by decide)) (by rfl) T.g_law_caught T.F_law_caught.kp T.b_law_caught .nil pass0 (pa_cons pe_int (pa_cons pe_str (pa_cons (pv 0) pa_nil)))) (pa_cons (pe_call (G_law_caught (P := P) T) (hr.mono (by decide)) (by rfl) T.g_law_caught T.F_law_caught.kp T.b_law_caught .nil pass0 (pa_cons pe_int (pa_cons pe_non (pa_cons (pv 0) pa_nil)))) pa_nil))))
  (pss_one (ps_if (pt_cmpR (k_neD K rfl hr.units) (pe_lc (own := [("_law_one", 3)]) (g := gName 3) (by rfl) sc_law_refused.nd (k_piL K rfl (pv 2)) (blkOk_by (own := [("_law_one", 3)]) (N := N_law_refused) (sc := defScope s_law_refused) (by decide +kernel)) (fun _ _ _ _ _ => (pg_name (i := 3) sc_law_refused.nd rfl (by first | exact Or.inl rfl | exact Or.inr rfl))) (fun _ _ _ _ _ => (pts_one (PW.pt (pw_or (pt_cmpR op_ne (pe_ix (k_ixL K rfl) (pv 3) pe_int (fun _ _ => rfl)) pe_str (nomark _)) (pw_or1 (pt_cmpR op_ne (pe_callB (k_reprX K rfl gd (hu65 hr)) (by rfl) T.n_repr (by decide +kernel) (pa_cons (pe_ix (k_ixL K rfl) (pv 3) pe_int (fun _ _ => rfl)) pa_nil)) (pe_callB (k_reprX K rfl gd (hu65 hr)) (by rfl) T.n_repr (by decide +kernel) (pa_cons (pv 0) pa_nil)) (nomark _))))))) (fun _ _ _ _ _ => (pv 3))) (pe_lst pa_nil) (nomark _))
    (pss_one (ps_ret pe_bl))
    pss_nil))))
  (pss_one (ps_ret (pe_cmpR (k_eqD K rfl hr.units) (pe_lc (own := [("_law_bad", 0)]) (g := gName 0) (by rfl) sc_law_refused.nd (k_piL K rfl (pe_lst (pa_cons pe_int (pa_cons pe_int pa_nil)))) (blkOk_by (own := [("_law_bad", 0)]) (N := N_law_refused) (sc := defScope s_law_refused) (by decide +kernel)) (fun _ _ _ _ _ => (pg_name (i := 0) sc_law_refused.nd rfl (by first | exact Or.inl rfl | exact Or.inr rfl))) (fun _ _ _ _ _ => (pts_one (pt_cmpR (k_neD K rfl hr.units) (pe_call (G_law_caught (P := P) T) (hr.mono (by decide)) (by rfl) T.g_law_caught T.F_law_caught.kp T.b_law_caught .nil pass0 (pa_cons pe_int (pa_cons pe_non (pa_cons (pv 0) pa_nil)))) (pe_lst (pa_cons pe_str (pa_cons (pv 0) pa_nil))) (nomark _)))) (fun _ _ _ _ _ => (pv 0))) (pe_lst pa_nil) (nomark _)))))), ?_⟩
  refine ⟨_, 17, rfl, rfl, (by decide), (by decide), (by show 2 ≤ sizeLine; decide), fun l1 nl1 => ?_⟩
  obtain ⟨H1, e1, s1, hl1⟩ := fresh (.lst [V.str (("1" : String) : Str), V.str (("0" : String) : Str)]) nl1
  rw [e1]
  refine ⟨(by show 2 ≤ sizeLine; decide), fun u1 nu1 => ?_⟩
  obtain ⟨H1b, e1b, s1b, hu1⟩ := fresh (.tup [V.str (("1" : String) : Str), V.str (("0" : String) : Str)]) nu1
  rw [e1b]
  refine fun d1 nd1 => ?_
  obtain ⟨H1c, e1c, s1c, hd1⟩ := fresh (.dK []) nd1
  rw [e1c]
  refine ⟨(by show 11 ≤ sizeLine; decide), fun L1 nL1 => ?_⟩
  obtain ⟨H2, e2, s2, hL1⟩ := fresh (.lst [V.non, .int 0, .bl true, .str (("" : String) : Str), .str (("1" : String) : Str), .str (Txt.mul (("0" : String) : Str) (17 : Nat)), .str (("102" : String) : Str), .str (("1 0" : String) : Str), .ref l1, .ref u1, .ref d1]) nL1
  rw [e2]
  have f1 := bad_marks (K := K) (s2 _ _ (s1c _ _ (s1b _ _ hl1))) (s2 _ _ (s1c _ _ hu1)) (s2 _ _ hd1)
  refine ⟨L1, rfl, ⟨_, .inl (.inl hL1)⟩, for_list (K := K) (a := L1) (fun i σ HA => ∃ v0 v1 v2 : Option V, σ = [v0, v1, v2, none] ∧ Same H2 HA) ⟨none, none, none, rfl, Same.refl _⟩ (fun i σ HA _ ⟨_, _, _, _, s⟩ => .inl (.inl (s _ _ hL1))) ?_ ?_⟩
  · rintro i x σ HA hx ⟨v0, v1, v2, rfl, sA⟩
    obtain ⟨hB, t, hS⟩ := f1 x (List.mem_of_getElem? hx)
    refine ⟨_, rfl, (by decide), (by decide), ?_⟩
    refine for_range (lo := 0) (n := ((6 : Int)).toNat) (fun j σ HB => ∃ v1 v2 : Option V, σ = [some x, v1, v2, none] ∧ Same HA HB) ⟨_, _, rfl, Same.refl _⟩ ?_ ?_
    · rintro j σ HB hj ⟨v1, v2, rfl, sB⟩
      rw [Int.zero_add]
      have hj6 : j < 6 := hj
      refine ⟨_, rfl, _, rfl, j, x, .non, rfl, .inl ⟨hj6, (hB.same sA).same sB, fun HE a sE na ha => ?_⟩⟩
      have hSE := ((hS.same sA).same sB).same sE
      refine ⟨_, rfl, a, _, _, .str (("mark" : String) : Str), rfl, rfl, .inl (.inl ha), at0 _ _, rfl, _, rfl, ?_⟩
      rw [decide_eq_true rfl]
      refine iteF ?_
      refine ⟨_, rfl, a, _, _, x, rfl, rfl, .inl (.inl ha), at1 _ _ _, hSE.repr ⟨_, rfl, hSE.repr ⟨rfl, _, rfl, ?_⟩⟩⟩
      rw [decide_eq_true rfl]
      refine iteF ?_
      exact ⟨_, _, rfl, sB.trans sE⟩
    · rintro σ HB ⟨v1, v2, rfl, sB⟩
      refine ⟨(by show 2 ≤ sizeLine; decide), fun L2 nL2 => ?_⟩
      obtain ⟨HD, eD, sD, hL2⟩ := fresh (.lst [V.int 4, V.int 5]) nL2
      rw [eD]
      refine ⟨L2, rfl, ⟨_, .inl (.inl hL2)⟩, fun D2 nD2 => ?_⟩
      refine lc_relL (K := K) (xs := [V.int 4, V.int 5]) (fun _ y H => Told (("mark" : String) : Str) x D2 y H) nD2 (.inl (.inl hL2)) (by show 2 < sizeLine; decide) (fun _ _ _ _ o h => h.mono o) (fun x => rfl) ?_ ?_
      · intro j y HE ys hy sE hDE Qt qt
        obtain ⟨k, rfl, hk⟩ : ∃ k : Nat, y = .int k ∧ (k = 4 ∨ k = 5) := by
          match j, hy with
          | 0, hy => cases hy; exact ⟨4, rfl, .inl rfl⟩
          | 1, hy => cases hy; exact ⟨5, rfl, .inr rfl⟩
          | j + 2, hy => simp at hy
        exact ⟨_, rfl, _, rfl, k, _, x, rfl, .inr (.inl ⟨hk, ⟨[true, false], congrArg V.str str_10, by decide, by decide⟩, (((hB.same sA).same sB).same sD).same sE, fun HF a sF na ha => qt _ _ sF ⟨a, rfl, (ne_of_none hDE na).symm, ha⟩⟩)⟩
      · intro HF ys2 sF hDF hlF hRF
        have hl2 : ys2.length = 2 := hlF
        have hSG := (((hS.same sA).same sB).same sD).same sF
        refine ⟨_, rfl, D2, rfl, ⟨_, .inl (.inl hDF)⟩, fun D3 nD3 => ?_⟩
        refine lc_selL (K := K) (xs := ys2) (ys2.map fun _ => none) nD3 (.inl (.inl hDF)) (by rw [List.length_map]) (by rw [hl2]; decide) (fun x => rfl) ?_ ?_
        · intro k y o HI hy ho sI Qt qt
          rw [List.getElem?_map, hy] at ho
          cases ho
          obtain ⟨a, rfl, _, ha⟩ := hRF k y hy
          have haI := sI _ _ ha
          have hSI := hSG.same sI
          refine ⟨_, rfl, a, _, _, .str (("mark" : String) : Str), rfl, rfl, .inl (.inl haI), at0 _ _, rfl, _, rfl, ?_⟩
          rw [decide_eq_true rfl]
          refine iteF ?_
          refine ⟨_, rfl, a, _, _, x, rfl, rfl, .inl (.inl haI), at1 _ _ _, hSI.repr ⟨_, rfl, hSI.repr ⟨rfl, _, rfl, ?_⟩⟩⟩
          rw [decide_eq_true rfl]
          exact iteF (qt _ (Same.refl _))
        · intro HI sI hDI
          rw [fm_noneN] at hDI
          refine ⟨Nat.zero_le _, fun p2 np2 => ?_⟩
          refine ne_lst (ns := []) (.inl (.inl (same_upd np2 _ _ hDI))) (.inl (.inl upd_same)) ⟨_, rfl, iteF ?_⟩
          exact ⟨_, _, _, rfl, ((((sA.trans sB).trans sD).trans sF).trans sI).trans (same_upd np2)⟩
  · rintro σ H3 ⟨v0, v1, v2, rfl, s3⟩
    refine ⟨_, rfl, (by show 1 ≤ sizeLine; decide), fun l2 nl2 => ?_⟩
    obtain ⟨H4, e4, s4, hl2⟩ := fresh (.lst [V.int 3]) nl2
    rw [e4]
    refine ⟨_, _, rfl, rfl, ⟨by decide, by decide +kernel⟩, (by show 7 ≤ sizeLine; decide), fun L2 nL2 => ?_⟩
    obtain ⟨H5, e5, s5, hL2⟩ := fresh (.lst [V.non, .str (("3" : String) : Str), .int (-1), .int 1001, .bl true, .ref l2, .int (10 ^ 30)]) nL2
    have e5' : upd H4 L2 (.lst [V.non, .str (("3" : String) : Str), .int (-1), .int 1001, .bl true, .ref l2, .int (10 ^ ((30 : Int)).toNat)]) = H5 := e5
    walk_at "b"
    rw [e5']
    have f2 := bad_nums (K := K) (s5 _ _ hl2)
    refine ⟨L2, rfl, ⟨_, .inl (.inl hL2)⟩, for_list (K := K) (a := L2) (fun i σ HA => ∃ v0 v1 v2 : Option V, σ = [v0, v1, v2, none] ∧ Same H5 HA) ⟨_, _, _, rfl, Same.refl _⟩ (fun i σ HA _ ⟨_, _, _, _, s⟩ => .inl (.inl (s _ _ hL2))) ?_ ?_⟩
    · rintro i x σ HA hx ⟨v0, v1, v2, rfl, sA⟩
      obtain ⟨hB0, hB2, t, hS⟩ := f2 x (List.mem_of_getElem? hx)
      refine ⟨_, rfl, 3, _, x, rfl, .inr (.inr (.inl ⟨rfl, ⟨[true, false], congrArg V.str str_10, by decide, by decide⟩, hB0.same sA, fun HB a sB na ha => ?_⟩))⟩
      refine ⟨_, rfl, 6, _, x, rfl, .inr (.inr (.inr ⟨rfl, (hB2.same sA).same sB, fun HC b sC nb hb => ?_⟩))⟩
      refine ⟨(by show 2 ≤ sizeLine; decide), fun p np => ?_⟩
      obtain ⟨HD, eD, sD, hp⟩ := fresh (.lst [V.ref a, V.ref b]) np
      rw [eD]
      have haD := sD _ _ (sC _ _ ha)
      have hbD := sD _ _ hb
      have hSG := (((hS.same sA).same sB).same sC).same sD
      refine ⟨_, rfl, p, rfl, ⟨_, .inl (.inl hp)⟩, fun D3 nD3 => ?_⟩
      refine lc_selL (K := K) (xs := [V.ref a, V.ref b]) ([V.ref a, V.ref b].map fun _ => none) nD3 (.inl (.inl hp)) rfl (by show 2 < sizeLine; decide) (fun x => rfl) ?_ ?_
      · intro k y o HI hy ho sI Qt qt
        rw [List.getElem?_map, hy] at ho
        cases ho
        obtain ⟨c, rfl, hc⟩ : ∃ c : Addr, y = .ref c ∧ HD c = some (.lst [.str (("number" : String) : Str), x]) := by
          match k, hy with
          | 0, hy => cases hy; exact ⟨a, rfl, haD⟩
          | 1, hy => cases hy; exact ⟨b, rfl, hbD⟩
          | k + 2, hy => simp at hy
        have hcI := sI _ _ hc
        have hSI := hSG.same sI
        refine ⟨_, rfl, c, _, _, .str (("number" : String) : Str), rfl, rfl, .inl (.inl hcI), at0 _ _, rfl, _, rfl, ?_⟩
        rw [decide_eq_true rfl]
        refine iteF ?_
        refine ⟨_, rfl, c, _, _, x, rfl, rfl, .inl (.inl hcI), at1 _ _ _, hSI.repr ⟨_, rfl, hSI.repr ⟨rfl, _, rfl, ?_⟩⟩⟩
        rw [decide_eq_true rfl]
        exact iteF (qt _ (Same.refl _))
      · intro HI sI hDI
        rw [fm_noneN] at hDI
        refine ⟨Nat.zero_le _, fun p2 np2 => ?_⟩
        refine ne_lst (ns := []) (.inl (.inl (same_upd np2 _ _ hDI))) (.inl (.inl upd_same)) ⟨_, rfl, iteF ?_⟩
        exact ⟨_, _, _, rfl, ((((sA.trans sB).trans sC).trans sD).trans sI).trans (same_upd np2)⟩
    · rintro σ HA ⟨v0, v1, v2, rfl, sA⟩
      refine ⟨(by show 2 ≤ sizeLine; decide), fun L3 nL3 => ?_⟩
      obtain ⟨HB, eB, sB, hL3⟩ := fresh (.lst [V.int 0, V.int 1]) nL3
      rw [eB]
      refine ⟨L3, rfl, ⟨_, .inl (.inl hL3)⟩, fun D nD => ?_⟩
      refine lc_selL (K := K) (xs := [V.int 0, V.int 1]) ([V.int 0, V.int 1].map fun _ => none) nD (.inl (.inl hL3)) rfl (by decide) (fun x => rfl) ?_ ?_
      · intro k y o HI hy ho sI Qt qt
        rw [List.getElem?_map, hy] at ho
        cases ho
        obtain ⟨j, rfl, hj⟩ : ∃ j : Nat, y = .int j ∧ j < 2 := by
          match k, hy with
          | 0, hy => cases hy; exact ⟨0, rfl, by decide⟩
          | 1, hy => cases hy; exact ⟨1, rfl, by decide⟩
          | k + 2, hy => simp at hy
        have hN : NumV K HI (.int (j : Int)) 2 (some 1000) false := .inl ⟨j, rfl, (decide_eq_false fun z => by have := z.1; omega).symm⟩
        refine ⟨_, rfl, 6, _, _, rfl, .inr (.inr (.inr ⟨rfl, hN, fun HC b sC nb hb => ?_⟩))⟩
        refine ⟨_, rfl, (by show 2 ≤ sizeLine; decide), fun p np => ?_⟩
        have shp : SeqAt.shaped (.list [.str (("number" : String) : Str), .int j]) = true ∧ PyData.eqv (.list [.str (("number" : String) : Str), .int j]) (.list [.str (("number" : String) : Str), .int j]) = true := by
          have : j = 0 ∨ j = 1 := by omega
          rcases this with rfl | rfl <;> exact ⟨by decide +kernel, by decide +kernel⟩
        refine ⟨.list [.str (("number" : String) : Str), .int j], .list [.str (("number" : String) : Str), .int j], .lst (.inl (.inl (same_upd np _ _ hb))) (.cons (.str _) (.cons (.int _) .nil)), .lst (.inl (.inl upd_same)) (.cons (.str _) (.cons (.int _) .nil)), shp.1, shp.1, _, rfl, ?_⟩
        rw [shp.2]
        exact iteF (qt _ (sC.trans (same_upd np)))
      · intro HI sI hDI
        rw [fm_noneN] at hDI
        refine ⟨Nat.zero_le _, fun p2 np2 => ?_⟩
        refine eq_lst (ns := []) (.inl (.inl (same_upd np2 _ _ hDI))) (.inl (.inl upd_same)) ?_
        exact q _ (((((((((s1.trans s1b).trans s1c).trans s2).trans s3).trans s4).trans s5).trans sA).trans sB).trans (sI.trans (same_upd np2)))
end
end My

namespace My
open PySem PySem.Spec PyProof.Rows L2 Pre
/-! ### list(range(a, b, c)) -/
section
variable {X : Cx} {a b c e : Expr} {ta tb tc : TE} {te : L2.St → Hp → (Int → Int → Int → Hp → Prop) → Prop}
/-- what the list holds -/
def rgV3 (a c : Int) (n : Nat) : List V := (List.range n).map fun i => V.int (a + (i : Nat) * c)
def PRg3 (X : Cx) (e : Expr) (t : L2.St → Hp → (Int → Int → Int → Hp → Prop) → Prop) : Prop :=
  ∀ (pins : List (Addr × Obj)) (s : Shared) (σ : L2.St) (H : Hp) (Q : Int → Int → Int → Hp → Prop), Inv X pins σ H s → t σ H Q →
    wpAny (model X.prog X.w) X.A (eval e X.env) (fun x s' => ∃ r a b c t u v H', x = .ref r ∧ IsRange s'.heap r a b c t u v ∧ Inv X pins σ H' s' ∧ Q a b c H') X.xe s
def tRg3 (ta tb tc : TE) : L2.St → Hp → (Int → Int → Int → Hp → Prop) → Prop := fun σ H Q => ta σ H fun x H1 => tb σ H1 fun y H2 => tc σ H2 fun z H3 => ∃ i j k, x = .int i ∧ y = .int j ∧ z = .int k ∧ k ≠ 0 ∧ Builtin.divisionGoesByPylong (j - i) k = false ∧ Q i j k H3
theorem prg_3 {p pos : Pos} (hg : Gl X "range") (hm : X.mg "range" = none) (ha : PE X a ta) (hb : PE X b tb) (hc : PE X c tc)
    (na : starEach [a, b, c] X.env = (false, eval a X.env) :: starEach [b, c] X.env := by rfl) (nb : starEach [b, c] X.env = (false, eval b X.env) :: starEach [c] X.env := by rfl) (nc : starEach [c] X.env = (false, eval c X.env) :: starEach [] X.env := by rfl)
    (hp : (backTo pos (starEach [b, c] X.env)).any (·.1) = false := by rfl) : PRg3 X (.Call (.Name "range" p) [a, b, c] [] pos) (tRg3 ta tb tc) := by
  intro pins s σ H Q I h
  refine Call_ (ld_blt I hg hm boot_range (PyProof.Rows.callWith_type1 (args_cons (thn (ha.run pins s σ H _ I h) fun v s1 ⟨x, H1, I1, r1, q1⟩ => args_cons (thn (hb.run pins s1 σ H1 _ I1 q1) fun v2 s2 ⟨y, H2, I2, r2, q2⟩ => one_arg hc I2 q2 (fun u s3 z H3 I3 r3 q => ?_) nc) nb) na) na hp))
  obtain ⟨i, j, k, rfl, rfl, rfl, hk, hd, q⟩ := q
  obtain ⟨t, rfl⟩ := r1
  obtain ⟨t', rfl⟩ := r2
  obtain ⟨t'', rfl⟩ := r3
  exact call_range_3 hk ⟨_, i, j, k, _, _, _, H3, rfl, IsRange.new _ _ _ _ _ _ _, I3.kept fun b u e => Heap.get?_push_of_some _ e, q⟩ (.inl hd)
def tLstRg3 (te : L2.St → Hp → (Int → Int → Int → Hp → Prop) → Prop) : TE := fun σ H Q => te σ H fun a b c H1 => ∃ n : Nat, Builtin.Range.small a b c = true ∧ Builtin.Range.rangeSize a b c = n ∧ n ≤ 2 ^ 24 ∧ ∀ q, H1 q = none → Q (.ref q) (upd H1 q (.lst (rgV3 a c n)))
theorem rgV3_vals {a c : Int} {n : Nat} {acc : Array Value} (h : ItemsOf (fun i v => ∃ t, v = .int (a + i * c) t) acc n) : Vals (rgV3 a c n) acc.toList := by
  have e : acc.toList.length = n := by rw [Array.length_toList]; exact h.1
  unfold rgV3
  rw [← e]
  refine vals_of_get acc.toList _ fun j u hj => ?_
  obtain ⟨t, rfl⟩ := h.2 j u (by rw [← hj, Array.getElem?_toList])
  exact ⟨t, rfl⟩
theorem pe_listRg3 {p pos : Pos} (hc : X.calm = true) (hg : Gl X "list") (hm : X.mg "list" = none) (he : PRg3 X e te) (na : starEach [e] X.env = (false, eval e X.env) :: starEach [] X.env := by rfl) : PE X (.Call (.Name "list" p) [e] [] pos) (tLstRg3 te) := by
  refine ⟨fun pins s σ H Q I h => ?_⟩
  refine Call_ (ld_blt I hg hm boot_list (PyProof.Rows.callWith_type1 (args_cons (thn (he pins s σ H _ I h) fun x s1 ⟨r, a, b, c, t, u, v, H1, ex, hr, I1, n, hs, hn, hl, q⟩ => args_nil ?_) na) na))
  subst ex
  refine call_list_range (n := n) (I1.ok.hd hc) hr hs hn hl fun h' tk acc c' hk e' hi => ?_
  refine ⟨.ref s1.heap.objs.size, upd H1 s1.heap.objs.size (.lst (rgV3 a c n)), I1.laid hk (Nat.le_refl _) (show ObjOk X.prog X.w _ _ _ (.lst (rgV3 a c n)) from ⟨?_, acc.toList, c', rgV3_vals hi, ?_⟩), rfl, q _ (I1.hok.fresh (Nat.le_refl _))⟩
  · rw [rgV3, List.length_map, List.length_range, sizeLine_eq]; omega
  · rw [Array.toArray_toList]; exact e'
end
end My

namespace My
open PySem PySem.Spec PyProof.Rows L2 Pre
/-! ### the law of marks: pairs, free ones -/
theorem Alike.symm {m u : List Bool} : Alike m u ↔ Alike u m := ⟨fun h => ⟨h.1.symm, h.2.symm⟩, fun h => ⟨h.1.symm, h.2.symm⟩⟩
theorem IsPt.uniq {bs cs : List Bool} {v u : V} (h : IsPt bs cs v) (k : IsPt cs bs u) : v = u := by
  rcases h with ⟨rfl, ha⟩ | ⟨n, rfl, ha, hd, hm⟩
  · rcases k with ⟨rfl, _⟩ | ⟨_, _, hb, _⟩
    · rfl
    · exact absurd (Alike.symm.mp ha) hb
  · rcases k with ⟨rfl, hb⟩ | ⟨n', rfl, hb, hd', hm'⟩
    · exact absurd (Alike.symm.mp hb) ha
    · congr 2
      have h1 : ¬ n < n' := fun l => hd (hm' n l).symm
      have h2 : ¬ n' < n := fun l => hd' (hm n' l).symm
      omega
theorem show2 {K : PySem.W.Frag} {b : Bool} {H : Hp} {a : Addr} (ha : H a = some (.lst [V.bl b, V.bl b])) : Shw K H (.ref a) (PyData.list [.bool b, .bool b]).shown := .inl ⟨.list [.bool b, .bool b], .lst (.inl (.inl ha)) (.cons (.bl b) (.cons (.bl b) .nil)), by cases b <;> decide +kernel, by cases b <;> decide +kernel, by cases b <;> decide +kernel, rfl⟩
/-- ways that meet again behind an `and`, whatever its value -/
theorem joinB {c : Bool} {u : V} {A : Prop} {R : V → Hp → Prop} {H : Hp} (Pv : V → Hp → Prop) (cont : ∀ v H', Pv v H' → R v H') (h1 : c = true → (∀ v H', Pv v H' → R v H') → A) (h2 : c = false → Pv u H) : if c = true then A else R u H := by
  cases c with
  | true => rw [if_pos rfl]; exact h1 rfl cont
  | false => rw [if_neg (by decide)]; exact cont _ _ (h2 rfl)
theorem aW_zero {m : List Bool} (h : 0 < m.length) : aW m 0 = 1 := aW_short h
local macro_rules | `(tactic| walk_at "go") => `(tactic| repeat (first | (with_reducible first | refine iteT ?_ | refine iteF ?_ | refine iteNtt ?_ | refine iteNff ?_ | refine iteET (by omega) ?_ | refine iteEF (by omega) ?_ | refine iteENT (by omega) ?_ | refine iteENF (by omega) ?_ | refine iteDT (by omega) ?_ | refine iteDF (by omega) ?_ | refine iteNT (by omega) ?_ | refine iteNF (by omega) ?_) | refine ⟨_, rfl, ?_⟩ | refine ⟨_, _, rfl, rfl, ?_⟩ | refine ⟨_, _, rfl, ?_⟩ | refine ⟨rfl, ?_⟩ | refine .inl ⟨_, rfl, ?_⟩ | refine .inr ⟨_, rfl, ?_⟩))
local macro_rules | `(tactic| walk_at "b") => `(tactic| try dsimp (config := { proj := false, iota := false, eta := false, zeta := false }) only)
section
variable {P : Program} {w : World} {K : PySem.W.Frag} {mg : Str → Option Value} {base : Heap} [pf : Sup.PF P fileS]
def sp_law_pair_right : Sp := fun vs H Q _ => ∃ bs cs : List Bool, vs = [.str (bS bs), .str (bS cs)] ∧ 2 ≤ bs.length ∧ bs.length ≤ 6 ∧ 2 ≤ cs.length ∧ cs.length ≤ 6 ∧ ∀ H', Same H H' → Q (.bl true) H'
theorem G_law_pair_right (T : Top K mg) : FnG P w K mg base CX0 7 T.f_law_pair_right T.fd_law_pair_right ["_law_one", "_law_other"] sp_law_pair_right := by
  refine FnG.body T.F_law_pair_right sc_law_pair_right (fun vs H Q E h => by obtain ⟨bs, cs, rfl, _⟩ := h; rfl) (fun cdv A outer s H vs Q E gd hr h => ?_)
  obtain ⟨bs, cs, rfl, h1, h2, k1, k2, q⟩ := h
  refine ⟨_, PSs.nox (pss_cons (ps_set (i := 2) sc_law_pair_right.nd rfl (by first | exact Or.inl rfl | exact Or.inr rfl) (pe_and (pe_cmpR op_eq (pe_callB call_len_str (by rfl) T.n_len (by decide +kernel) (pa_cons (pv 0) pa_nil)) (pe_callB call_len_str (by rfl) T.n_len (by decide +kernel) (pa_cons (pv 1) pa_nil)) (nomark _)) (pe_one (pe_cmpR (k_eqD K rfl hr.units) (pe_call (G_law_borders (P := P) T) (hr.mono (by decide)) (by rfl) T.g_law_borders T.F_law_borders.kp T.b_law_borders .nil pass0 (pa_cons (pv 0) pa_nil)) (pe_call (G_law_borders (P := P) T) (hr.mono (by decide)) (by rfl) T.g_law_borders T.F_law_borders.kp T.b_law_borders .nil pass0 (pa_cons (pv 1) pa_nil)) (nomark _)))))
  (pss_cons (ps_if (pt_cmpR op_ne (pe_callB (k_reprX K rfl gd (hu65 hr)) (by rfl) T.n_repr (by decide +kernel) (pa_cons (pe_lst (pa_cons (pe_call (G_same_marks (P := P) T) (hr.mono (by decide)) (by rfl) T.g_same_marks T.F_same_marks.kp T.b_same_marks .nil passL (pa_cons (pv 0) (pa_cons (pv 1) pa_nil))) (pa_cons (pe_call (G_same_marks (P := P) T) (hr.mono (by decide)) (by rfl) T.g_same_marks T.F_same_marks.kp T.b_same_marks .nil passL (pa_cons (pv 1) (pa_cons (pv 0) pa_nil))) pa_nil))) pa_nil)) (pe_callB (k_reprX K rfl gd (hu65 hr)) (by rfl) T.n_repr (by decide +kernel) (pa_cons (pe_lst (pa_cons (pv 2) (pa_cons (pv 2) pa_nil))) pa_nil)) (nomark _))
    (pss_one (ps_ret pe_bl))
    pss_nil)
  (pss_cons (ps_set (i := 3) sc_law_pair_right.nd rfl (by first | exact Or.inl rfl | exact Or.inr rfl) (pe_call (G_parting_length (P := P) T) (hr.mono (by decide)) (by rfl) T.g_parting_length T.F_parting_length.kp T.b_parting_length .nil passL (pa_cons (pv 0) (pa_cons (pv 1) pa_nil))))
  (pss_cons (ps_if (PW.pt (pw_or (pt_val (pv 2)) (pw_or1 (pt_cmpR op_isN (pv 3) pe_non (nomark _)))))
    (pss_one (ps_ret (pe_and (pv 2) (pe_one (pe_cmpR op_isN (pv 3) pe_non (nomark _))))))
    pss_nil)
  (pss_cons (ps_if (PW.pt (pw_or (pt_cmpR (k_neD K rfl hr.units) (pv 3) (pe_callKO (G_parting_length (P := P) T) (hr.mono (by decide)) (by rfl) T.g_parting_length T.F_parting_length.kp (FunD.kbindsN T.F_parting_length ["other", "one"] sw2 sw2_rel (fun _ _ _ _ _ _ ws hl => match ws, hl with | [_, _], _ => rfl)) passL (pk_cons (pv 0) (pk_cons (pv 1) pk_nil))) (nomark _)) (pw_or1 (pt_not (pt_chain op_lt op_lt pe_int (pv 3) (pe_op op_add (pe_callB call_len_str (by rfl) T.n_len (by decide +kernel) (pa_cons (pv 0) pa_nil)) (pe_callB call_len_str (by rfl) T.n_len (by decide +kernel) (pa_cons (pv 1) pa_nil))))))))
    (pss_one (ps_ret pe_bl))
    pss_nil)
  (pss_cons (ps_for PassesOwn.never rfl (pi_range1 (by rfl) T.n_range (pa_cons (pe_op op_add (pv 3) pe_int) pa_nil)) (pg_name (i := 4) sc_law_pair_right.nd rfl (by first | exact Or.inl rfl | exact Or.inr rfl))
    (pss_one (ps_if (pt_cmpR op_ne (pe_cmpR op_eq (pe_call (G_law_without (P := P) T) (hr.mono (by decide)) (by rfl) T.g_law_without T.F_law_without.kp T.b_law_without .nil pass0 (pa_cons (pv 0) (pa_cons (pv 4) pa_nil))) (pe_call (G_law_without (P := P) T) (hr.mono (by decide)) (by rfl) T.g_law_without T.F_law_without.kp T.b_law_without .nil pass0 (pa_cons (pv 1) (pa_cons (pv 4) pa_nil))) (nomark _)) (pe_cmpR op_lt (pv 4) (pv 3) (nomark _)) (nomark _))
    (pss_one (ps_ret pe_bl))
    pss_nil)))
  (pss_one (ps_ret pe_bl)))))))), ?_⟩
  refine ⟨_, rfl, _, rfl, by rw [bS_len, sizeLine_eq]; omega, _, rfl, _, rfl, by rw [bS_len, sizeLine_eq]; omega, rfl, _, rfl, ?_⟩
  have hdiff : Alike bs cs ∨ ∃ n, aW bs n ≠ aW cs n := by
    by_cases ha : Alike bs cs
    · exact .inl ha
    · obtain ⟨n, _, hn⟩ := marks_part h1 h2 k1 k2 ha
      exact .inr ⟨n, hn⟩
  by_cases ha : Alike bs cs
  · have e1 : decide (Alike bs cs) = true := decide_eq_true ha
    have e2 : decide (Alike cs bs) = true := decide_eq_true (Alike.symm.mp ha)
    refine iteET (by rw [bS_len, bS_len, ha.1]) ?_
    refine ⟨_, rfl, bs, rfl, by omega, by omega, fun H0 a s0 na ha0 => ?_⟩
    refine ⟨_, rfl, cs, rfl, by omega, by omega, fun H1 b s1' nb hb => ?_⟩
    have s1 := s0.trans s1'
    refine eqD_lst (ns := nI (bord bs)) (ms := nI (bord cs)) (.inl (.inl (s1' _ _ ha0))) (.inl (.inl hb)) ?_
    rw [decide_eq_true (show nI (bord bs) = nI (bord cs) by rw [ha.2])]
    refine ⟨_, rfl, _, rfl, _, _, rfl, .inl ⟨bs, rfl, h1, by omega, .inl ⟨cs, rfl, k1, by omega, fun H2 s2 => ?_⟩⟩⟩
    refine ⟨_, rfl, _, rfl, _, _, rfl, .inl ⟨cs, rfl, k1, by omega, .inl ⟨bs, rfl, h1, by omega, fun H3 s3 => ?_⟩⟩⟩
    refine ⟨(by show 2 ≤ sizeLine; decide), fun p3 np3 => ?_⟩
    rw [e1, e2]
    refine (show2 upd_same).repr ?_
    have s13 := (s1.trans s2).trans (s3.trans (same_upd (o := .lst [V.bl true, V.bl true]) np3))
    refine ⟨_, rfl, _, rfl, (by show 2 ≤ sizeLine; decide), fun p4 np4 => ?_⟩
    refine (show2 upd_same).repr ⟨rfl, _, rfl, ?_⟩
    have s14 := s13.trans (same_upd (o := .lst [V.bl true, V.bl true]) np4)
    rw [decide_eq_true rfl]
    refine iteF ?_
    refine ⟨_, rfl, _, rfl, _, _, rfl, .inl ⟨bs, rfl, h1, by omega, .inl ⟨cs, rfl, k1, by omega, hdiff, fun H5 x s5 hx => ?_⟩⟩⟩
    have s15 := s14.trans s5
    obtain rfl : x = .non := by
      rcases hx with ⟨e, _⟩ | ⟨_, _, h, _⟩
      · exact e
      · exact absurd ha h
    refine ⟨_, rfl, true, rfl, iteT ?_⟩
    exact ⟨_, rfl, true, rfl, iteT ⟨_, rfl, rfl, q _ s15⟩⟩
  · have e1 : decide (Alike bs cs) = false := decide_eq_false ha
    have e2 : decide (Alike cs bs) = false := decide_eq_false fun h => ha (Alike.symm.mp h)
    by_cases hl : bs.length = cs.length
    · refine iteET (by rw [bS_len, bS_len, hl]) ?_
      refine ⟨_, rfl, bs, rfl, by omega, by omega, fun H0 a s0 na ha0 => ?_⟩
      refine ⟨_, rfl, cs, rfl, by omega, by omega, fun H1 b s1' nb hb => ?_⟩
      refine eqD_lst (ns := nI (bord bs)) (ms := nI (bord cs)) (.inl (.inl (s1' _ _ ha0))) (.inl (.inl hb)) ?_
      rw [decide_eq_false (show ¬ nI (bord bs) = nI (bord cs) from fun h => ha ⟨hl, nI_inj.mp h⟩)]
      have s1 := s0.trans s1'
      refine ⟨_, rfl, _, rfl, _, _, rfl, .inl ⟨bs, rfl, h1, by omega, .inl ⟨cs, rfl, k1, by omega, fun H2 s2 => ?_⟩⟩⟩
      refine ⟨_, rfl, _, rfl, _, _, rfl, .inl ⟨cs, rfl, k1, by omega, .inl ⟨bs, rfl, h1, by omega, fun H3 s3 => ?_⟩⟩⟩
      refine ⟨(by show 2 ≤ sizeLine; decide), fun p3 np3 => ?_⟩
      rw [e1, e2]
      refine (show2 upd_same).repr ?_
      have s13 := (s1.trans s2).trans (s3.trans (same_upd (o := .lst [V.bl false, V.bl false]) np3))
      refine ⟨_, rfl, _, rfl, (by show 2 ≤ sizeLine; decide), fun p4 np4 => ?_⟩
      refine (show2 upd_same).repr ⟨rfl, _, rfl, ?_⟩
      have s14 := s13.trans (same_upd (o := .lst [V.bl false, V.bl false]) np4)
      rw [decide_eq_true rfl]
      refine iteF ?_
      refine ⟨_, rfl, _, rfl, _, _, rfl, .inl ⟨bs, rfl, h1, by omega, .inl ⟨cs, rfl, k1, by omega, hdiff, fun H5 x s5 hx => ?_⟩⟩⟩
      have s15 := s14.trans s5
      obtain ⟨n, rfl, hd, hm⟩ : ∃ n : Nat, x = .int n ∧ aW bs n ≠ aW cs n ∧ ∀ m, m < n → aW bs m = aW cs m := by
        rcases hx with ⟨_, h⟩ | ⟨n, e, _, h⟩
        · exact absurd h ha
        · exact ⟨n, e, h⟩
      obtain ⟨N, hN, hNd⟩ := marks_part h1 h2 k1 k2 ha
      have hnN : n ≤ N := Nat.le_of_not_lt fun l => hNd (hm N l)
      have hn0 : 0 < n := Nat.pos_of_ne_zero fun e => hd (by rw [e, aW_zero (by omega), aW_zero (by omega)])
      refine ⟨_, rfl, false, rfl, iteF ?_⟩
      refine ⟨_, rfl, rfl, _, rfl, iteF ?_⟩
      refine ⟨_, rfl, _, rfl, _, rfl, rfl, _, _, rfl, .inl ⟨cs, rfl, k1, by omega, .inl ⟨bs, rfl, h1, by omega, hdiff.imp Alike.symm.mp (fun ⟨n, h⟩ => ⟨n, fun e => h e.symm⟩), fun H6 y s6 hy => ?_⟩⟩⟩
      obtain rfl := hx.uniq hy
      refine ⟨.int n, .int n, .int n, .int n, rfl, rfl, _, rfl, ?_⟩
      rw [show PyData.eqv (.int (n : Int)) (.int (n : Int)) = true by rw [PyData.eqv]; simp]
      refine iteF ?_
      refine ⟨_, rfl, _, _, rfl, rfl, _, rfl, iteDT (by omega) ?_⟩
      refine ⟨_, rfl, _, rfl, by rw [bS_len, sizeLine_eq]; omega, _, rfl, _, rfl, by rw [bS_len, sizeLine_eq]; omega, _, _, rfl, rfl, _, _, rfl, rfl, _, rfl, ?_⟩
      rw [bS_len, bS_len, decide_eq_true (show (n : Int) < (bs.length : Int) + (cs.length : Int) by omega)]
      refine iteF ?_
      refine ⟨_, rfl, _, _, rfl, rfl, _, rfl, by omega, by omega, ?_⟩
      refine for_range (lo := 0) (n := ((n : Int) + 1).toNat) (fun i σ H7 => ∃ v4 : Option V, σ = [some (.str (bS bs)), some (.str (bS cs)), some (.bl false), some (.int n), v4] ∧ Same H6 H7) ⟨none, rfl, Same.refl _⟩ ?_ ?_
      · rintro i σ H7 hi ⟨v4, rfl, s7⟩
        rw [Int.zero_add]
        refine ⟨_, rfl, _, rfl, bs, i, rfl, by omega, by omega, fun H8 s8 => ?_⟩
        refine ⟨_, rfl, _, rfl, cs, i, rfl, by omega, by omega, fun H9 s9 => ?_⟩
        refine ⟨rfl, _, rfl, _, rfl, _, _, rfl, rfl, rfl, _, rfl, ?_⟩
        have hv : V.bl (decide (V.int (aW bs i : Int) = V.int (aW cs i : Int))) = V.bl (decide ((i : Int) < (n : Int))) := by
          by_cases hin : i < n
          · rw [decide_eq_true (show V.int (aW bs i : Int) = V.int (aW cs i : Int) by rw [hm i hin]), decide_eq_true (show (i : Int) < (n : Int) by omega)]
          · have ei : i = n := by omega
            rw [decide_eq_false (show ¬ V.int (aW bs i : Int) = V.int (aW cs i : Int) by rw [ei]; intro h; exact hd (by have := V.int.inj h; omega)), decide_eq_false (show ¬ (i : Int) < (n : Int) by omega)]
        exact iteNF hv ⟨_, rfl, (s7.trans s8).trans s9⟩
      · rintro σ H7 ⟨v4, rfl, s7⟩
        exact q _ ((s15.trans s6).trans s7)
    · refine iteEF (by rw [bS_len, bS_len]; omega) ?_
      have s1 : Same H H := Same.refl _
      refine ⟨_, rfl, _, rfl, _, _, rfl, .inl ⟨bs, rfl, h1, by omega, .inl ⟨cs, rfl, k1, by omega, fun H2 s2 => ?_⟩⟩⟩
      refine ⟨_, rfl, _, rfl, _, _, rfl, .inl ⟨cs, rfl, k1, by omega, .inl ⟨bs, rfl, h1, by omega, fun H3 s3 => ?_⟩⟩⟩
      refine ⟨(by show 2 ≤ sizeLine; decide), fun p3 np3 => ?_⟩
      rw [e1, e2]
      refine (show2 upd_same).repr ?_
      have s13 := (s1.trans s2).trans (s3.trans (same_upd (o := .lst [V.bl false, V.bl false]) np3))
      refine ⟨_, rfl, _, rfl, (by show 2 ≤ sizeLine; decide), fun p4 np4 => ?_⟩
      refine (show2 upd_same).repr ⟨rfl, _, rfl, ?_⟩
      have s14 := s13.trans (same_upd (o := .lst [V.bl false, V.bl false]) np4)
      rw [decide_eq_true rfl]
      refine iteF ?_
      refine ⟨_, rfl, _, rfl, _, _, rfl, .inl ⟨bs, rfl, h1, by omega, .inl ⟨cs, rfl, k1, by omega, hdiff, fun H5 x s5 hx => ?_⟩⟩⟩
      have s15 := s14.trans s5
      obtain ⟨n, rfl, hd, hm⟩ : ∃ n : Nat, x = .int n ∧ aW bs n ≠ aW cs n ∧ ∀ m, m < n → aW bs m = aW cs m := by
        rcases hx with ⟨_, h⟩ | ⟨n, e, _, h⟩
        · exact absurd h ha
        · exact ⟨n, e, h⟩
      obtain ⟨N, hN, hNd⟩ := marks_part h1 h2 k1 k2 ha
      have hnN : n ≤ N := Nat.le_of_not_lt fun l => hNd (hm N l)
      have hn0 : 0 < n := Nat.pos_of_ne_zero fun e => hd (by rw [e, aW_zero (by omega), aW_zero (by omega)])
      refine ⟨_, rfl, false, rfl, iteF ?_⟩
      refine ⟨_, rfl, rfl, _, rfl, iteF ?_⟩
      refine ⟨_, rfl, _, rfl, _, rfl, rfl, _, _, rfl, .inl ⟨cs, rfl, k1, by omega, .inl ⟨bs, rfl, h1, by omega, hdiff.imp Alike.symm.mp (fun ⟨n, h⟩ => ⟨n, fun e => h e.symm⟩), fun H6 y s6 hy => ?_⟩⟩⟩
      obtain rfl := hx.uniq hy
      refine ⟨.int n, .int n, .int n, .int n, rfl, rfl, _, rfl, ?_⟩
      rw [show PyData.eqv (.int (n : Int)) (.int (n : Int)) = true by rw [PyData.eqv]; simp]
      refine iteF ?_
      refine ⟨_, rfl, _, _, rfl, rfl, _, rfl, iteDT (by omega) ?_⟩
      refine ⟨_, rfl, _, rfl, by rw [bS_len, sizeLine_eq]; omega, _, rfl, _, rfl, by rw [bS_len, sizeLine_eq]; omega, _, _, rfl, rfl, _, _, rfl, rfl, _, rfl, ?_⟩
      rw [bS_len, bS_len, decide_eq_true (show (n : Int) < (bs.length : Int) + (cs.length : Int) by omega)]
      refine iteF ?_
      refine ⟨_, rfl, _, _, rfl, rfl, _, rfl, by omega, by omega, ?_⟩
      refine for_range (lo := 0) (n := ((n : Int) + 1).toNat) (fun i σ H7 => ∃ v4 : Option V, σ = [some (.str (bS bs)), some (.str (bS cs)), some (.bl false), some (.int n), v4] ∧ Same H6 H7) ⟨none, rfl, Same.refl _⟩ ?_ ?_
      · rintro i σ H7 hi ⟨v4, rfl, s7⟩
        rw [Int.zero_add]
        refine ⟨_, rfl, _, rfl, bs, i, rfl, by omega, by omega, fun H8 s8 => ?_⟩
        refine ⟨_, rfl, _, rfl, cs, i, rfl, by omega, by omega, fun H9 s9 => ?_⟩
        refine ⟨rfl, _, rfl, _, rfl, _, _, rfl, rfl, rfl, _, rfl, ?_⟩
        have hv : V.bl (decide (V.int (aW bs i : Int) = V.int (aW cs i : Int))) = V.bl (decide ((i : Int) < (n : Int))) := by
          by_cases hin : i < n
          · rw [decide_eq_true (show V.int (aW bs i : Int) = V.int (aW cs i : Int) by rw [hm i hin]), decide_eq_true (show (i : Int) < (n : Int) by omega)]
          · have ei : i = n := by omega
            rw [decide_eq_false (show ¬ V.int (aW bs i : Int) = V.int (aW cs i : Int) by rw [ei]; intro h; exact hd (by have := V.int.inj h; omega)), decide_eq_false (show ¬ (i : Int) < (n : Int) by omega)]
        exact iteNF hv ⟨_, rfl, (s7.trans s8).trans s9⟩
      · rintro σ H7 ⟨v4, rfl, s7⟩
        exact q _ ((s15.trans s6).trans s7)
end
end My

namespace My
open PySem PySem.Spec PyProof.Rows L2 Pre
/-! ### the law of marks -/
theorem keep_dec (A : List Bool) (z : Bool) : (!decide (A = List.replicate A.length (!z))) = decide (z ∈ A) := by
  by_cases h : z ∈ A
  · rw [decide_eq_true h, decide_eq_false]
    · rfl
    · intro e
      rw [e] at h
      have := (List.mem_replicate.mp h).2
      cases z <;> cases this
  · rw [decide_eq_false h, decide_eq_true]
    · rfl
    · refine List.eq_replicate_iff.mpr ⟨rfl, fun b hb => ?_⟩
      cases b <;> cases z <;> first | rfl | exact absurd hb h
theorem shwB {K : PySem.W.Frag} {H : Hp} (b : Bool) : Shw K H (.bl b) (PyData.bool b).shown := .inl ⟨.bool b, .bl b, by cases b <;> decide +kernel, by cases b <;> decide +kernel, by cases b <;> decide +kernel, rfl⟩
theorem turn_len (bs : List Bool) (k : Nat) : (turnB bs k).length = bs.length := by
  unfold turnB
  split <;> (try rw [cm_len]) <;> split <;> simp
theorem aW_turn (bs : List Bool) (k t : Nat) : aW (turnB bs k) t = aW bs t := by
  unfold turnB
  split
  · rw [aW_cm]
    split
    · exact aW_rev bs t
    · rfl
  · split
    · exact aW_rev bs t
    · rfl
theorem str_10s : Txt.mul (("10" : String) : Str) (8 : Nat) = bS [true, false, true, false, true, false, true, false, true, false, true, false, true, false, true, false] := by decide +kernel
theorem k1001 : (("1001" : String) : Str) = bS [true, false, false, true] := by decide +kernel
theorem k1010 : (("1010" : String) : Str) = bS [true, false, true, false] := by decide +kernel
local macro_rules | `(tactic| walk_at "go") => `(tactic| repeat (first | (with_reducible first | refine iteT ?_ | refine iteF ?_ | refine iteNtt ?_ | refine iteNff ?_ | refine iteET (by omega) ?_ | refine iteEF (by omega) ?_ | refine iteENT (by omega) ?_ | refine iteENF (by omega) ?_ | refine iteDT (by omega) ?_ | refine iteDF (by omega) ?_ | refine iteNT (by omega) ?_ | refine iteNF (by omega) ?_) | refine ⟨_, rfl, ?_⟩ | refine ⟨_, _, rfl, rfl, ?_⟩ | refine ⟨_, _, rfl, ?_⟩ | refine ⟨rfl, ?_⟩ | refine .inl ⟨_, rfl, ?_⟩ | refine .inr ⟨_, rfl, ?_⟩))
local macro_rules | `(tactic| walk_at "b") => `(tactic| try dsimp (config := { proj := false, iota := false, eta := false, zeta := false }) only)
section
variable {P : Program} {w : World} {K : PySem.W.Frag} {mg : Str → Option Value} {base : Heap} [pf : Sup.PF P fileS]
def sp_law_free_right : Sp := fun vs H Q _ => ∃ g : Addr, vs = [.ref g] ∧ PumpAt H g ∧ ∀ H', But g H H' → PumpAt H' g → Q (.bl true) H'
theorem G_law_free_right (T : Top K mg) : FnOk P w K mg base CX0 5 T.f_law_free_right T.fd_law_free_right ["_law_pump_here"] sp_law_free_right := by
  refine T.F_law_free_right.ok sc_law_free_right (fun vs H Q E h => by obtain ⟨g, rfl, _⟩ := h; rfl) (fun cdv A outer s H vs Q E hr h => ?_)
  obtain ⟨g, rfl, hP, q⟩ := h
  refine ⟨_, PSs.nox (pss_cons (ps_for PassesOwn.never rfl (pi_range2 (by rfl) T.n_range (pa_cons pe_int (pa_cons pe_int pa_nil))) (pg_name (i := 1) sc_law_free_right.nd rfl (by first | exact Or.inl rfl | exact Or.inr rfl))
    (pss_one (ps_if (pt_cmpR op_ne (pe_call (G_how_many_free (P := P) T) (hr.mono (by decide)) (by rfl) T.g_how_many_free T.F_how_many_free.kp T.b_how_many_free .nil passL (pa_cons (pv 1) pa_nil)) (pe_callB (k_len K rfl) (by rfl) T.n_len (by decide +kernel) (pa_cons (pe_lc (own := [("_law_word", 5)]) (g := gName 5) (by rfl) sc_law_free_right.nd (k_piL K rfl (pe_call (G_law_words (P := P) T) (hr.mono (by decide)) (by rfl) T.g_law_words T.F_law_words.kp T.b_law_words .nil pass0 (pa_cons (pv 1) pa_nil))) (blkOk_by (own := [("_law_word", 5)]) (N := N_law_free_right) (sc := defScope s_law_free_right) (by decide +kernel)) (fun _ _ _ _ _ => (pg_name (i := 5) sc_law_free_right.nd rfl (by first | exact Or.inl rfl | exact Or.inr rfl))) (fun _ _ _ _ _ => (pts_one (pt_cmpR (k_eqD K rfl hr.units) (pe_call (G_law_borders (P := P) T) (hr.mono (by decide)) (by rfl) T.g_law_borders T.F_law_borders.kp T.b_law_borders .nil pass0 (pa_cons (pv 5) pa_nil)) (pe_lst pa_nil) (nomark _)))) (fun _ _ _ _ _ => (pv 5))) pa_nil)) (nomark _))
    (pss_one (ps_ret pe_bl))
    pss_nil)))
  (pss_cons (ps_set (i := 2) sc_law_free_right.nd rfl (by first | exact Or.inl rfl | exact Or.inr rfl) (pe_op op_add pe_int (pe_call (G_law_cup (P := P) T) (hr.mono (by decide)) (by rfl) T.g_law_cup T.F_law_cup.kp T.b_law_cup .nil pass0 (pa_cons (pv 0) (pa_cons pe_int pa_nil)))))
  (pss_cons (ps_par (by rfl) sc_law_free_right.nd (i := 3) (j := 4) rfl rfl (by decide) rfl rfl (pa_cons (pe_call (G_how_many_free (P := P) T) (hr.mono (by decide)) (by rfl) T.g_how_many_free T.F_how_many_free.kp T.b_how_many_free .nil passL (pa_cons (pe_op op_mul pe_int (pv 2)) pa_nil)) (pa_cons (pe_call (G_how_many_free (P := P) T) (hr.mono (by decide)) (by rfl) T.g_how_many_free T.F_how_many_free.kp T.b_how_many_free .nil passL (pa_cons (pe_op op_add (pe_op op_mul pe_int (pv 2)) pe_int) pa_nil)) pa_nil)) (by rfl))
  (pss_one (ps_ret (pe_and (pe_cmpR op_eq (pv 4) (pe_op op_mul pe_int (pv 3)) (nomark _)) (pe_one (pe_cmpR op_eq (pv 3) (pe_op op_sub (pe_op op_mul pe_int (pe_call (G_how_many_free (P := P) T) (hr.mono (by decide)) (by rfl) T.g_how_many_free T.F_how_many_free.kp T.b_how_many_free .nil passL (pa_cons (pe_op op_sub (pe_op op_mul pe_int (pv 2)) pe_int) pa_nil))) (pe_callKO (G_how_many_free (P := P) T) (hr.mono (by decide)) (by rfl) T.g_how_many_free T.F_how_many_free.kp (FunD.kbindsN T.F_how_many_free ["many"] List.reverse Vals_rev (fun _ _ _ _ _ _ ws hl => match ws, hl with | [_], _ => rfl)) passL (pk_cons (pv 2) pk_nil))) (nomark _))))))))), ?_⟩
  refine ⟨_, _, rfl, ⟨by decide, by decide, by decide, by decide⟩, ?_⟩
  refine for_range (lo := 2) (n := ((10 : Int) - 2).toNat) (fun i σ H1 => ∃ v1 : Option V, σ = [some (.ref g), v1, none, none, none, none] ∧ Same H H1) ⟨none, rfl, Same.refl _⟩ ?_ ?_
  · rintro i σ H1 hi ⟨v1, rfl, s1⟩
    rw [show (2 : Int) + (i : Nat) = ((i + 2 : Nat) : Int) by omega]
    have hi8 : i < 8 := hi
    refine ⟨_, rfl, _, rfl, .inl ⟨i + 2, rfl, by omega, by omega, fun H2 s2 => ?_⟩⟩
    refine ⟨_, rfl, i + 2, rfl, by omega, fun H3 c s3 nc hc => ?_⟩
    have hp : 2 ^ (i + 2) ≤ 2 ^ 9 := Nat.pow_le_pow_right (by decide) (by omega)
    refine ⟨c, rfl, ⟨_, .inl (.inl hc)⟩, fun D nD => ?_⟩
    refine lc_selL (K := K) (xs := (wds (i + 2)).map fun x => V.str (bS x)) ((wds (i + 2)).map fun x => if decide (bord x = []) = true then some (V.str (bS x)) else none) nD (.inl (.inl hc)) (by rw [List.length_map, List.length_map]) (by rw [List.length_map, wds_len]; exact small4 (by omega)) (fun x => rfl) ?_ ?_
    · intro j x o H' hx ho s Qt qt
      rw [List.getElem?_map] at hx ho
      obtain ⟨y, hy, rfl⟩ := Option.map_eq_some_iff.mp hx
      rw [hy] at ho
      cases ho
      have ly : y.length = i + 2 := (wds_mem _ y).mp (List.mem_of_getElem? hy)
      dsimp only at qt
      refine ⟨_, rfl, y, rfl, by omega, by omega, fun H4 a s4 na ha => ⟨Nat.zero_le _, fun p np => ?_⟩⟩
      refine eqD_lst (ns := nI (bord y)) (ms := nI []) (.inl (.inl (same_upd np _ _ ha))) (.inl (.inl upd_same)) ⟨_, rfl, ?_⟩
      have e : decide (nI (bord y) = nI []) = decide (bord y = []) := by rw [decide_eq_decide]; exact nI_inj
      rw [e]
      by_cases c : bord y = []
      · rw [if_pos (decide_eq_true c)] at qt
        rw [decide_eq_true c]
        exact iteT ⟨_, rfl, qt _ (s4.trans (same_upd np))⟩
      · rw [if_neg (by rw [decide_eq_false c]; decide)] at qt
        rw [decide_eq_false c]
        exact iteF (qt _ (s4.trans (same_upd np)))
    · intro H4 s4 hD
      refine ⟨D, _, rfl, .inl (.inl (.inl hD)), rfl, _, rfl, ?_⟩
      have e : (((wds (i + 2)).map fun x => if decide (bord x = []) = true then some (V.str (bS x)) else none).filterMap id).length = ((wds (i + 2)).filter fun x => decide (bord x = [])).length := by
        generalize wds (i + 2) = l
        induction l with
        | nil => rfl
        | cons x r ih =>
          rw [List.map_cons, List.filterMap_cons, List.filter_cons]
          by_cases c : decide (bord x = []) = true
          · rw [if_pos c, if_pos c, List.length_cons, ← ih]
            rfl
          · rw [if_neg c, if_neg c, ← ih]
            rfl
      refine iteENF (by rw [e]; exact fr_small (i + 2) (by omega) (by omega)) ?_
      exact ⟨_, rfl, ((s1.trans s2).trans s3).trans s4⟩
  · rintro σ H1 ⟨v1, rfl, s1⟩
    refine ⟨_, rfl, g, _, rfl, hP.same s1, by decide, by decide, fun H2 d b2 hP2 hd => ?_⟩
    refine ⟨_, _, rfl, rfl, ?_⟩
    dsimp only
    rw [show (2 : Int) + (d : Int) = ((d + 2 : Nat) : Int) by omega]
    have hd2 : d < 498 := by omega
    refine ⟨_, rfl, _, _, rfl, rfl, .inl ⟨by decide, by decide⟩, _, rfl, .inl ⟨2 * (d + 2), rfl, by omega, by omega, fun H3 s3 => ?_⟩⟩
    refine ⟨_, rfl, _, _, rfl, rfl, .inl ⟨by decide, by decide⟩, _, _, rfl, rfl, _, rfl, .inl ⟨2 * (d + 2) + 1, rfl, by omega, by omega, fun H4 s4 => ?_⟩⟩
    refine ⟨_, _, rfl, ?_⟩
    refine ⟨_, rfl, _, rfl, _, _, rfl, rfl, .inl ⟨by decide, by decide⟩, rfl, _, rfl, ?_⟩
    rw [decide_eq_true (show V.int (fr (2 * (d + 2) + 1)) = V.int (2 * fr (2 * (d + 2))) by rw [fr_odd (by omega)])]
    refine iteT ?_
    refine ⟨_, rfl, _, rfl, _, _, rfl, rfl, .inl ⟨by decide, by decide⟩, _, _, rfl, rfl, _, rfl, .inl ⟨2 * (d + 2) - 1, (by show V.int _ = V.int _; congr 1; omega), by omega, by omega, fun H5 s5 => ?_⟩⟩
    refine ⟨_, _, rfl, rfl, .inl ⟨by decide, by decide⟩, ?_⟩
    refine ⟨_, rfl, rfl, _, rfl, .inl ⟨d + 2, rfl, by omega, by omega, fun H6 s6 => ?_⟩⟩
    refine ⟨_, _, rfl, rfl, rfl, ?_⟩
    rw [decide_eq_true (show V.int (fr (2 * (d + 2))) = V.int (2 * fr (2 * (d + 2) - 1) - fr (d + 2)) by rw [fr_even (by omega)])]
    exact q _ (((But.of s1).trans b2).same (((s3.trans s4).trans s5).trans s6)) (hP2.same (((s3.trans s4).trans s5).trans s6))
def sp_law (K : PySem.W.Frag) : Sp := fun vs H Q _ => ∃ (a : Addr) (ns : List Int), vs = [.ref a] ∧ SqL K H a (ns.map V.int) ∧ ns.length ≤ 63 ∧ ∀ H', Q (.bl true) H'
theorem G_law (T : Top K mg) : FnG P w K mg base CX0 9 T.f_law T.fd_law ["_law_script"] (sp_law K) := by
  refine FnG.body T.F_law sc_law (fun vs H Q E h => by obtain ⟨a, ns, rfl, _⟩ := h; rfl) (fun cdv A outer s H vs Q E gd hr h => ?_)
  obtain ⟨a, ns, rfl, hS, hz, q⟩ := h
  refine ⟨_, PSs.nox (pss_cons (ps_set (i := 1) sc_law.nd rfl (by first | exact Or.inl rfl | exact Or.inr rfl) (pe_call (G_law_pump (P := P) T) (hr.mono (by decide)) (by rfl) T.g_law_pump T.F_law_pump.kp T.b_law_pump .nil pass0 (pa_cons (pv 0) (pa_cons pe_int pa_nil))))
  (pss_cons (ps_par (by rfl) sc_law.nd (i := 4) (j := 5) rfl rfl (by decide) rfl rfl (pa_cons (pe_call (G_law_mark (P := P) T) (hr.mono (by decide)) (by rfl) T.g_law_mark T.F_law_mark.kp T.b_law_mark .nil pass0 (pa_cons (pv 1) (pa_cons pe_int (pa_cons pe_int pa_nil)))) (pa_cons (pe_call (G_law_mark (P := P) T) (hr.mono (by decide)) (by rfl) T.g_law_mark T.F_law_mark.kp T.b_law_mark .nil pass0 (pa_cons (pv 1) (pa_cons pe_int (pa_cons pe_int pa_nil)))) pa_nil)) (by rfl))
  (pss_cons (ps_for PassesOwn.never rfl (k_piL K rfl (pe_lst (pa_cons (pv 4) (pa_cons (pv 5) pa_nil)))) (pg_name (i := 2) sc_law.nd rfl (by first | exact Or.inl rfl | exact Or.inr rfl))
    (pss_cons (ps_set (i := 6) sc_law.nd rfl (by first | exact Or.inl rfl | exact Or.inr rfl) (pe_call (G_borders (P := P) T) (hr.mono (by decide)) (by rfl) T.g_borders T.F_borders.kp T.b_borders .nil passL (pa_cons (pv 2) pa_nil)))
  (pss_cons (ps_if (PW.pt (pw_or (pt_cmpR (k_neD K rfl hr.units) (pv 6) (pe_call (G_law_borders (P := P) T) (hr.mono (by decide)) (by rfl) T.g_law_borders T.F_law_borders.kp T.b_law_borders .nil pass0 (pa_cons (pv 2) pa_nil)) (nomark _)) (pw_or1 (pt_cmpR op_ne (pe_callB (k_reprX K rfl gd (hu65 hr)) (by rfl) T.n_repr (by decide +kernel) (pa_cons (pe_call (G_is_free (P := P) T) (hr.mono (by decide)) (by rfl) T.g_is_free T.F_is_free.kp T.b_is_free .nil passL (pa_cons (pv 2) pa_nil)) pa_nil)) (pe_callB (k_reprX K rfl gd (hu65 hr)) (by rfl) T.n_repr (by decide +kernel) (pa_cons (pe_cmpR (k_eqD K rfl hr.units) (pv 6) (pe_lst pa_nil) (nomark _)) pa_nil)) (nomark _)))))
    (pss_one (ps_ret pe_bl))
    pss_nil)
  (pss_cons (ps_if (pt_cmpR op_ne (pe_callB (k_reprX K rfl gd (hu65 hr)) (by rfl) T.n_repr (by decide +kernel) (pa_cons (pe_call (G_is_keepable (P := P) T) (hr.mono (by decide)) (by rfl) T.g_is_keepable T.F_is_keepable.kp T.b_is_keepable .nil passL (pa_cons (pv 2) pa_nil)) pa_nil)) (pe_callB (k_reprX K rfl gd (hu65 hr)) (by rfl) T.n_repr (by decide +kernel) (pa_cons (pe_call (G_law_keepable (P := P) T) (hr.mono (by decide)) (by rfl) T.g_law_keepable T.F_law_keepable.kp T.b_law_keepable .nil pass0 (pa_cons (pv 2) pa_nil)) pa_nil)) (nomark _))
    (pss_one (ps_ret pe_bl))
    pss_nil)
  (pss_cons (ps_expr (pe_bm PySem.F.plainAttrs_list PySem.F.slot_list_append PySem.F.type_list_append mt_append (pv 6) (pa_cons pe_int pa_nil)))
  (pss_cons (ps_if (pt_cmpR (k_neD K rfl hr.units) (pe_callKO (G_borders (P := P) T) (hr.mono (by decide)) (by rfl) T.g_borders T.F_borders.kp (FunD.kbindsN T.F_borders ["mark"] List.reverse Vals_rev (fun _ _ _ _ _ _ ws hl => match ws, hl with | [_], _ => rfl)) passL (pk_cons (pv 2) pk_nil)) (pe_call (G_law_borders (P := P) T) (hr.mono (by decide)) (by rfl) T.g_law_borders T.F_law_borders.kp T.b_law_borders .nil pass0 (pa_cons (pv 2) pa_nil)) (nomark _))
    (pss_one (ps_ret pe_bl))
    pss_nil)
  (pss_cons (ps_if (pt_cmpR (k_neD K rfl hr.units) (pe_lc (own := [("_law_many", 9)]) (g := gName 9) (by rfl) sc_law.nd (pi_range1 (by rfl) T.n_range (pa_cons pe_int pa_nil)) (blkOk_by (own := [("_law_many", 9)]) (N := N_law) (sc := defScope s_law) (by decide +kernel)) (fun _ _ _ _ _ => (pg_name (i := 9) sc_law.nd rfl (by first | exact Or.inl rfl | exact Or.inr rfl))) (fun _ _ _ _ _ => (pts_one (pt_cmpR op_ne (pe_call (G_rows_without (P := P) T) (hr.mono (by decide)) (by rfl) T.g_rows_without T.F_rows_without.kp T.b_rows_without .nil passL (pa_cons (pv 2) (pa_cons (pv 9) pa_nil))) (pe_call (G_law_without (P := P) T) (hr.mono (by decide)) (by rfl) T.g_law_without T.F_law_without.kp T.b_law_without .nil pass0 (pa_cons (pv 2) (pa_cons (pv 9) pa_nil))) (nomark _)))) (fun _ _ _ _ _ => (pv 9))) (pe_lst pa_nil) (nomark _))
    (pss_one (ps_ret pe_bl))
    pss_nil)
  (pss_cons (ps_set (i := 7) sc_law.nd rfl (by first | exact Or.inl rfl | exact Or.inr rfl) (pe_op op_add pe_int (pe_call (G_law_cup (P := P) T) (hr.mono (by decide)) (by rfl) T.g_law_cup T.F_law_cup.kp T.b_law_cup .nil pass0 (pa_cons (pv 1) (pa_cons pe_int pa_nil)))))
  (pss_cons (ps_set (i := 8) sc_law.nd rfl (by first | exact Or.inl rfl | exact Or.inr rfl) (pe_call (G_rows_without (P := P) T) (hr.mono (by decide)) (by rfl) T.g_rows_without T.F_rows_without.kp T.b_rows_without .nil passL (pa_cons (pv 2) (pa_cons (pv 7) pa_nil))))
  (pss_one (ps_if (pt_cmpR (k_neD K rfl hr.units) (pe_lc (own := [("_law_way", 10)]) (g := gName 10) (by rfl) sc_law.nd (pi_range1 (by rfl) T.n_range (pa_cons pe_int pa_nil)) (blkOk_by (own := [("_law_way", 10)]) (N := N_law) (sc := defScope s_law) (by decide +kernel)) (fun _ _ _ _ _ => (pg_name (i := 10) sc_law.nd rfl (by first | exact Or.inl rfl | exact Or.inr rfl))) (fun _ _ _ _ _ => (pts_one (pt_cmpR op_ne (pe_callKO (G_rows_without (P := P) T) (hr.mono (by decide)) (by rfl) T.g_rows_without T.F_rows_without.kp (FunD.kbindsN T.F_rows_without ["many", "mark"] sw2 sw2_rel (fun _ _ _ _ _ _ ws hl => match ws, hl with | [_, _], _ => rfl)) passL (pk_cons (pv 7) (pk_cons (pe_call (G_law_turned (P := P) T) (hr.mono (by decide)) (by rfl) T.g_law_turned T.F_law_turned.kp T.b_law_turned .nil pass0 (pa_cons (pv 2) (pa_cons (pv 10) pa_nil))) pk_nil))) (pv 8) (nomark _)))) (fun _ _ _ _ _ => (pv 10))) (pe_lst pa_nil) (nomark _))
    (pss_one (ps_ret pe_bl))
    pss_nil)))))))))))
  (pss_cons (ps_if (PW.pt (pw_or (pt_not (pt_val (pe_callG (G_law_pair_right (P := P) T) gd (hr.mono (by decide)) (by rfl) T.g_law_pair_right T.F_law_pair_right.kp T.b_law_pair_right .nil pass0 (pa_cons (pv 4) (pa_cons (pv 5) pa_nil))))) (pw_or1 (pt_not (pt_val (pe_callG (G_law_pair_right (P := P) T) gd (hr.mono (by decide)) (by rfl) T.g_law_pair_right T.F_law_pair_right.kp T.b_law_pair_right .nil pass0 (pa_cons (pv 4) (pa_cons (pe_call (G_law_turned (P := P) T) (hr.mono (by decide)) (by rfl) T.g_law_turned T.F_law_turned.kp T.b_law_turned .nil pass0 (pa_cons (pv 4) (pa_cons (pe_call (G_law_cup (P := P) T) (hr.mono (by decide)) (by rfl) T.g_law_cup T.F_law_cup.kp T.b_law_cup .nil pass0 (pa_cons (pv 1) (pa_cons pe_int pa_nil))) pa_nil))) pa_nil))))))))
    (pss_one (ps_ret pe_bl))
    pss_nil)
  (pss_cons (ps_set (i := 3) sc_law.nd rfl (by first | exact Or.inl rfl | exact Or.inr rfl) (pe_call (G_law_mark (P := P) T) (hr.mono (by decide)) (by rfl) T.g_law_mark T.F_law_mark.kp T.b_law_mark .nil pass0 (pa_cons (pv 1) (pa_cons pe_int (pa_cons pe_int pa_nil)))))
  (pss_cons (ps_if (PW.pt (pw_or (pt_cmpR (k_neD K rfl hr.units) (pe_call (G_borders (P := P) T) (hr.mono (by decide)) (by rfl) T.g_borders T.F_borders.kp T.b_borders .nil passL (pa_cons (pv 3) pa_nil)) (pe_call (G_law_borders (P := P) T) (hr.mono (by decide)) (by rfl) T.g_law_borders T.F_law_borders.kp T.b_law_borders .nil pass0 (pa_cons (pv 3) pa_nil)) (nomark _)) (pw_or1 (pt_cmpR op_ne (pe_call (G_rows_without (P := P) T) (hr.mono (by decide)) (by rfl) T.g_rows_without T.F_rows_without.kp T.b_rows_without .nil passL (pa_cons (pv 3) (pa_cons pe_int pa_nil))) pe_int (nomark _)))))
    (pss_one (ps_ret pe_bl))
    pss_nil)
  (pss_cons (ps_if (pt_cmpR (k_neD K rfl hr.units) (pe_call (G_borders (P := P) T) (hr.mono (by decide)) (by rfl) T.g_borders T.F_borders.kp T.b_borders .nil passL (pa_cons (pe_op op_rep_str pe_str pe_int) pa_nil)) (pe_listRg3 rfl (by rfl) T.n_list (prg_3 (by rfl) T.n_range pe_int pe_int pe_int)) (nomark _))
    (pss_one (ps_ret pe_bl))
    pss_nil)
  (pss_cons (ps_if (PW.pt (pw_or (pt_val (pe_call (G_same_marks (P := P) T) (hr.mono (by decide)) (by rfl) T.g_same_marks T.F_same_marks.kp T.b_same_marks .nil passL (pa_cons pe_str (pa_cons pe_str pa_nil)))) (pw_or1 (pt_cmpR (k_neD K rfl hr.units) (pe_call (G_parting_length (P := P) T) (hr.mono (by decide)) (by rfl) T.g_parting_length T.F_parting_length.kp T.b_parting_length .nil passL (pa_cons pe_str (pa_cons pe_str pa_nil))) pe_int (nomark _)))))
    (pss_one (ps_ret pe_bl))
    pss_nil)
  (pss_one (ps_ret (pe_and (pe_call (G_law_free_right (P := P) T) (hr.mono (by decide)) (by rfl) T.g_law_free_right T.F_law_free_right.kp T.b_law_free_right .nil pass0 (pa_cons (pv 1) pa_nil)) (pe_one (pe_callG0 (G_law_refused (P := P) T) gd (hr.mono (by decide)) (by rfl) T.g_law_refused T.F_law_refused.kp T.b_law_refused .nil pass0))))))))))))), ?_⟩
  refine ⟨_, rfl, a, ns, rfl, hS, hz, fun H1 g s1 ng g1 => ?_⟩
  refine ⟨_, rfl, g, 2, 6, rfl, g1, (by decide), (by decide), fun H2 bs b2 g2 l1 l2 => ?_⟩
  refine ⟨_, rfl, g, 2, 6, rfl, g2, (by decide), (by decide), fun H3 cs b3 g3 m1 m2 => ?_⟩
  refine ⟨_, _, rfl, ?_⟩
  refine ⟨_, rfl, _, rfl, (by show 2 ≤ sizeLine; decide), fun p np => ?_⟩
  obtain ⟨H4, e4, s4, hp⟩ := fresh (.lst [V.str (bS bs), V.str (bS cs)]) np
  rw [e4]
  have npg : p ≠ g := g3.ne np
  refine ⟨p, rfl, ⟨_, .inl (.inl hp)⟩, for_list (K := K) (a := p) (xs := [V.str (bS bs), V.str (bS cs)]) (fun i σ HA => ∃ v2 v6 v7 v8 : Option V, σ = [some (.ref a), some (.ref g), v2, none, some (.str (bS bs)), some (.str (bS cs)), v6, v7, v8, none, none] ∧ But g H4 HA ∧ PumpAt HA g) ⟨none, none, none, none, rfl, But.refl, g3.same s4⟩ (fun i σ HA _ ⟨_, _, _, _, _, b, _⟩ => .inl (.inl (b _ _ npg hp))) ?_ ?_⟩
  · rintro i x σ HA hx ⟨v2, v6, v7, v8, rfl, bA, gA⟩
    obtain ⟨B, rfl, n1, n2⟩ : ∃ B : List Bool, x = .str (bS B) ∧ 2 ≤ B.length ∧ B.length ≤ 6 := by
      match i, hx with
      | 0, hx => cases hx; exact ⟨bs, rfl, l1, l2⟩
      | 1, hx => cases hx; exact ⟨cs, rfl, m1, m2⟩
      | i + 2, hx => simp at hx
    refine ⟨_, rfl, _, rfl, .inl ⟨B, rfl, n1, by omega, fun H5 q1 s5 nq1 hq1 => ?_⟩⟩
    refine ⟨_, rfl, _, rfl, B, rfl, by omega, by omega, fun H6 q2 s6 nq2 hq2 => ?_⟩
    have hq16 := s6 _ _ hq1
    refine neD_lst (ns := nI (bord B)) (ms := nI (bord B)) (.inl (.inl hq16)) (.inl (.inl hq2)) ⟨_, rfl, ?_⟩
    rw [decide_eq_true rfl]
    refine iteF ?_
    refine ⟨_, rfl, _, rfl, .inl ⟨B, rfl, n1, by omega, fun H7 s7 => ?_⟩⟩
    refine (shwB _).repr ?_
    refine ⟨_, rfl, Nat.zero_le _, fun p7 np7 => ?_⟩
    have hq17 := s7 _ _ hq16
    refine eqD_lst (ns := nI (bord B)) (ms := nI []) (.inl (.inl (same_upd np7 _ _ hq17))) (.inl (.inl upd_same)) ?_
    have e : decide (nI (bord B) = nI []) = decide (bord B = []) := by rw [decide_eq_decide]; exact nI_inj
    rw [e]
    refine (shwB _).repr ⟨rfl, _, rfl, ?_⟩
    rw [decide_eq_true rfl]
    refine iteF ?_
    obtain ⟨H8, e8, s8, _⟩ := fresh (.lst ([] : List V)) np7
    rw [e8]
    have hq18 := s8 _ _ hq17
    obtain ⟨A, z, rfl⟩ : ∃ A z, B = A ++ [z] := ⟨B.dropLast, B.getLast (by intro e; rw [e] at n1; simp at n1), (List.dropLast_concat_getLast _).symm⟩
    have hA : (A ++ [z]).length = A.length + 1 := by rw [List.length_append, List.length_singleton]
    refine ⟨_, rfl, _, rfl, .inl ⟨A, z, rfl, by omega, by omega, fun H9 s9 => ?_⟩⟩
    refine (shwB _).repr ?_
    refine ⟨_, rfl, A, z, rfl, by omega, fun H10 s10 => ?_⟩
    refine (shwB _).repr ⟨rfl, _, rfl, ?_⟩
    rw [keep_dec, decide_eq_true rfl]
    refine iteF ?_
    have hq110 := s10 _ _ (s9 _ _ hq18)
    have s510 := (((s5.trans s6).trans s7).trans s8).trans (s9.trans s10)
    have hbl := bord_len (A ++ [z])
    refine ⟨_, rfl, .inl ⟨rfl, _, .inl (.inl hq110)⟩, q1, _, _, rfl, rfl, hq110, by rw [nI_len]; exact small4 (by omega), ?_⟩
    have s11 : Same HA (upd H10 q1 (.lst ((nI (bord (A ++ [z]))).map V.int ++ [V.int 0]))) := same_over nq1 s510
    dsimp only
    generalize upd H10 q1 (.lst ((nI (bord (A ++ [z]))).map V.int ++ [V.int 0])) = H11 at *
    refine ⟨_, rfl, rfl, _, rfl, .inl ⟨A ++ [z], rfl, n1, by omega, fun H12 q3 s12 nq3 hq3 => ?_⟩⟩
    refine ⟨_, rfl, A ++ [z], rfl, by omega, by omega, fun H13 q4 s13 nq4 hq4 => ?_⟩
    refine neD_lst (ns := nI (bord (A ++ [z]))) (ms := nI (bord (A ++ [z]))) (.inl (.inl (s13 _ _ hq3))) (.inl (.inl hq4)) ⟨_, rfl, ?_⟩
    rw [decide_eq_true rfl]
    refine iteF ?_
    have s13' := (s11.trans s12).trans s13
    refine ⟨_, rfl, (by decide), (by decide), fun D nD => ?_⟩
    refine lc_selR (lo := 0) (n := ((10 : Int)).toNat) ((List.range 10).map fun _ => none) nD (by decide) (by decide) (fun x => rfl) ?_ ?_
    · intro j o H' hj ho s Qt qt
      rw [List.getElem?_map] at ho
      obtain ⟨_, _, rfl⟩ := Option.map_eq_some_iff.mp ho
      rw [Int.zero_add]
      have hj9 : j < 10 := hj
      refine ⟨_, rfl, _, rfl, _, _, rfl, .inl ⟨A ++ [z], rfl, n1, by omega, .inl ⟨j, rfl, by omega, fun Ha sa => ?_⟩⟩⟩
      refine ⟨_, rfl, _, rfl, A ++ [z], j, rfl, by omega, by omega, fun Hb sb => ?_⟩
      exact ⟨rfl, _, rfl, iteENF rfl (qt _ (sa.trans sb))⟩
    · intro H14 s14 hD
      rw [fm_noneN] at hD
      refine ⟨Nat.zero_le _, fun p2 np2 => ?_⟩
      refine ne_lst (ns := []) (.inl (.inl (same_upd np2 _ _ hD))) (.inl (.inl upd_same)) ⟨_, rfl, iteF ?_⟩
      have s15 := (s13'.trans s14).trans (same_upd (o := .lst ([] : List V)) np2)
      refine ⟨_, rfl, g, _, rfl, gA.same s15, by decide, by decide, fun H16 d b16 g16 hd => ?_⟩
      refine ⟨_, _, rfl, rfl, ?_⟩
      dsimp only
      rw [show (500 : Int) + (d : Int) = ((d + 500 : Nat) : Int) by omega]
      refine ⟨_, rfl, _, rfl, _, _, rfl, .inl ⟨A ++ [z], rfl, n1, by omega, .inl ⟨d + 500, rfl, by omega, fun H17 s17 => ?_⟩⟩⟩
      refine ⟨_, rfl, (by decide), (by decide), fun D2 nD2 => ?_⟩
      refine lc_selR (lo := 0) (n := ((4 : Int)).toNat) ((List.range 4).map fun _ => none) nD2 (by decide) (by decide) (fun x => rfl) ?_ ?_
      · intro j o H' hj ho s Qt qt
        rw [List.getElem?_map] at ho
        obtain ⟨_, _, rfl⟩ := Option.map_eq_some_iff.mp ho
        rw [Int.zero_add]
        have hj9 : j < 4 := hj
        refine ⟨_, rfl, _, rfl, _, rfl, A ++ [z], j, rfl, by omega, hj9, fun Ha sa => ?_⟩
        refine ⟨rfl, _, _, rfl, .inl ⟨turnB (A ++ [z]) j, rfl, by rw [turn_len]; exact n1, by rw [turn_len]; omega, .inl ⟨d + 500, rfl, by omega, fun Hb sb => ?_⟩⟩⟩
        rw [aW_turn]
        refine ⟨_, rfl, ?_⟩
        generalize aW (A ++ [z]) (d + 500) = due
        refine ⟨rfl, _, rfl, ?_⟩
        refine iteENF rfl ?_
        exact qt _ (sa.trans sb)
      · intro H18 s18 hD2
        rw [fm_noneN] at hD2
        refine ⟨Nat.zero_le _, fun p3 np3 => ?_⟩
        refine ne_lst (ns := []) (.inl (.inl (same_upd np3 _ _ hD2))) (.inl (.inl upd_same)) ⟨_, rfl, iteF ?_⟩
        have s19 := (s17.trans s18).trans (same_upd (o := .lst ([] : List V)) np3)
        exact ⟨_, _, _, _, rfl, ((bA.same s15).trans b16).same s19, g16.same s19⟩
  · rintro σ HA ⟨v2, v6, v7, v8, rfl, bA, gA⟩
    refine ⟨_, rfl, _, rfl, bs, cs, rfl, l1, l2, m1, m2, fun H5 s5 => ⟨_, rfl, iteF ?_⟩⟩
    refine ⟨_, rfl, _, rfl, _, rfl, g, _, rfl, gA.same s5, by decide, by decide, fun H6 d b6 g6 hd => ?_⟩
    refine ⟨bs, d, rfl, by omega, by omega, fun H7 s7 => ?_⟩
    refine ⟨bs, turnB bs d, rfl, l1, l2, by rw [turn_len]; exact l1, by rw [turn_len]; exact l2, fun H8 s8 => ⟨_, rfl, iteF ?_⟩⟩
    refine ⟨_, rfl, g, 16, 16, rfl, (g6.same s7).same s8, (by decide), (by decide), fun H9 ls b9 g9 k1 k2 => ?_⟩
    refine ⟨_, rfl, _, rfl, .inl ⟨ls, rfl, by omega, by omega, fun H10 q1 s10 nq1 hq1 => ?_⟩⟩
    refine ⟨_, rfl, ls, rfl, by omega, by omega, fun H11 q2 s11 nq2 hq2 => ?_⟩
    refine neD_lst (ns := nI (bord ls)) (ms := nI (bord ls)) (.inl (.inl (s11 _ _ hq1))) (.inl (.inl hq2)) ⟨_, rfl, ?_⟩
    rw [decide_eq_true rfl]
    refine iteF ?_
    refine ⟨_, rfl, _, _, rfl, .inl ⟨ls, rfl, by omega, by omega, .inl ⟨16, rfl, by omega, fun H12 s12 => ?_⟩⟩⟩
    have ho := aW_own ls
    rw [show ls.length = 16 by omega] at ho
    refine ⟨rfl, _, rfl, iteENF (by omega) ?_⟩
    refine ⟨_, 8, rfl, rfl, (by decide), (by decide), _, rfl, .inl ⟨_, congrArg V.str str_10s, by decide, by decide, fun H13 q3 s13 nq3 hq3 => ?_⟩⟩
    refine ⟨2, 15, 2, rfl, rfl, rfl, by decide, by decide +kernel, 7, by decide +kernel, by decide +kernel, by decide, fun q4 nq4 => ?_⟩
    rw [bord_known] at hq3
    refine neD_lst (ns := nI [2, 4, 6, 8, 10, 12, 14]) (ms := nI [2, 4, 6, 8, 10, 12, 14]) (.inl (.inl (same_upd nq4 _ _ hq3))) (.inl (.inl (by rw [upd_same]; rfl))) ⟨_, rfl, ?_⟩
    rw [decide_eq_true rfl]
    refine iteF ?_
    have hna : ¬ Alike [true, false, false, true] [true, false, true, false] := by decide +kernel
    refine ⟨_, _, rfl, .inl ⟨_, congrArg V.str k1001, by decide, by decide, .inl ⟨_, congrArg V.str k1010, by decide, by decide, fun H14 s14 => ?_⟩⟩⟩
    rw [decide_eq_false hna]
    refine ⟨_, rfl, iteF ?_⟩
    refine ⟨_, _, rfl, .inl ⟨_, congrArg V.str k1001, by decide, by decide, .inl ⟨_, congrArg V.str k1010, by decide, by decide, .inr ⟨6, known_part.2⟩, fun H15 x s15 hx => ?_⟩⟩⟩
    obtain rfl : x = .int 6 := by
      rcases hx with ⟨_, h⟩ | ⟨n, rfl, _, hd', hm⟩
      · exact absurd h hna
      · congr 1
        have h1 : ¬ n < 6 := fun l => hd' (known_part.1 n l)
        have h2 : ¬ 6 < n := fun l => known_part.2 (hm 6 l)
        omega
    refine ⟨.int 6, .int 6, .int 6, .int 6, rfl, rfl, _, rfl, iteF ?_⟩
    have g15 := (((((g9.same s10).same s11).same s12).same s13).same (same_upd (o := .lst (rgV3 2 2 7)) nq4)).same (s14.trans s15)
    refine ⟨_, rfl, g, rfl, g15, fun H16 b16 g16 => ⟨true, rfl, iteT ?_⟩⟩
    exact ⟨rfl, fun H' _ => q _⟩
end
end My

open PySem PySem.W PySem.Calls PyProof.Rows
set_option maxRecDepth 100000 in
set_option maxHeartbeats 0 in
theorem PySem.Challenge.cw_wholesound_k90_marks_and_rows_without_th_holds : PySem.Challenge.rw_wholesound_k90_marks_and_rows_without_th.Holds := by
  w_on; o_law
  refine HandSHeadRun.head_any (r := OpenLaw.row PySem.Challenge.rw_wholesound_k90_marks_and_rows_without_th) (q := view (OpenLaw.row PySem.Challenge.rw_wholesound_k90_marks_and_rows_without_th).prog [39]) (H := My.hk) (ob := My.ob) (M := 8000) (loose := My.loose) (d := HandSHeadRun.topDef (OpenLaw.row PySem.Challenge.rw_wholesound_k90_marks_and_rows_without_th).prog 39) (kwd := []) My.ob_eq
    (by kernel_rfl) (fun s => by kernel_rfl) My.run (by kernel_rfl) (by kernel_rfl) (by kernel_rfl) (by rfl) (by first | assumption | decide +kernel) (by decide +kernel) ⟨rfl, rfl, rfl, rfl, rfl, by decide +kernel⟩ ?hw ?hc
  case hw => w_witness2
  case hc =>
    refine My.end_g (l := PySem.Challenge.rw_wholesound_k90_marks_and_rows_without_th) (n := 63) (k := 9) (x := "_law_script") rfl (by decide) (by kernel_rfl) ⟨rfl, by decide, by decide⟩ ?F
    intro w mg fa h Y G hmg0
    obtain ⟨K, KX, c⟩ := Y
    have hmg : mg ("law" : PySem.Str) = some (.ref fa) := by
      have e : (HandSHeadRun.topDef (OpenLaw.row PySem.Challenge.rw_wholesound_k90_marks_and_rows_without_th).prog 39).name = ("law" : PySem.Str) := by kernel_rfl
      rw [← e]
      exact hmg0
    have T : My.Top K mg := My.top_mk KX G c
    have e := hmg.symm.trans T.g_law
    cases e
    have b := L2.FunD.bindsA (ps := ["_law_script"]) T.F_law fun _ _ _ _ _ _ us hl => match us, hl with | [_], _ => rfl
    exact ⟨K, T.fd_law, My.sp_law K, KX, fun s v => b s [v] rfl, fun H a ns hl hS => ⟨a, ns, rfl, hS, hl, fun _ => rfl⟩, fun base _ _ => My.G_law (pf := ⟨by kernel_rfl, by kernel_rfl⟩) T⟩


