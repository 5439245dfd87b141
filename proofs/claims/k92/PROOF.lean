import PyProof.Rows.All
import Wide.All
import OpenK.AllK
import Wide.FinOn
import KE.KStateDown
import Lean
import HandS.ForMost
import HandS.Exc
import HandS.Flow
import HandS.DictComp
import HandS.Style
import HandS.Wide
import HandS.WideBits
import HandS.IsInst
import HandS.Codes
import HandS.Walk
import HandS.Words
import HandS.WordsExc
import HandS.Defaults
import HandS.Head0
import HandS.Head1
import HandS.Head2
import HandS.HeadEnd
import HandS.HeadHook1
import HandS.HeadHook2
import HandS.SortInts
import PyProof.Rows.SortShellAny
import PyProof.InstNe
import KE.DataMinMax
import KE.SortData
import KE.IntBitsLaws
import KE.BitLaws
import HandS.Deep
import HandS.SetKeys
import PyProof.Rows.StrMul
import HandS.TupLe
import HandS.Property
import HandS.Conv
import HandS.NoneIn
import HandS.SetFor
import HandS.Strs
import HandS.Sort
import HandS.StrMore
import HandS.ExcInit
import HandS.ExcSuper
import HandS.Nested
import KE.KExcSuper
import HandS.ExcField
import HandS.TryMany
import HandS.ExcIs
import HandS.TryOnly
import HandS.CallSlots
import KE.KDictDisplayH
import PyProof.StrLawsFirst
import KE.GoesZip
import KE.GoesMore
import HandS.Zip
import PyProof.CallType
import PyProof.ZipIter
import PyProof.TupleIter
import PyProof.Rows.CallKwBuiltin
import HandS.Star
import PySem.Challenge.RW_wholesound_k92_how_rows_grow
set_option Elab.async false
set_option linter.all false
set_option maxRecDepth 100000
set_option maxHeartbeats 4000000
set_option exponentiation.threshold 100000
namespace Pre
open PySem PySem.Spec PyProof.Rows L2
/-! ### heaps -/
theorem same_upd {H : Hp} {p : Addr} {o : HO} (h : H p = none) : Same H (upd H p o) := fun b x e => by
  rw [upd_ne (ne_of_none e h)]
  exact e
/-- a fresh thing that is then changed is no change of what was -/
theorem same_over {H H' : Hp} {p : Addr} {o : HO} (n : H p = none) (s : Same H H') : Same H (upd H' p o) := fun b x e => by
  rw [upd_ne (ne_of_none e n)]
  exact s b x e
theorem Same.tup {K : PySem.W.Frag} {H H' : Hp} {a : Addr} {xs : List V} (e : Same H H') (h : SqT K H a xs) : SqT K H' a xs := by
  rcases h with (h | ⟨o, h⟩) | h
  · exact .inl (.inl (e _ _ h))
  · exact .inl (.inr ⟨o, e _ _ h⟩)
  · exact .inr h
mutual
theorem dp_same {K : PySem.W.Frag} {H H' : Hp} (s : Same H H') : ∀ (d : PyData) (v : V), Dp K H v d → Dp K H' v d
  | .none, _, h => by cases h; exact .non
  | .bool _, _, h => by cases h; exact .bl _
  | .int _, _, h => by cases h; exact .int _
  | .str _, _, h => by cases h; exact .str _
  | .list ds, _, h => by cases h with | lst a b => exact .lst (s.seq a) (dps_same s ds _ b)
  | .tuple ds, _, h => by cases h with | tup a b => exact .tup (Same.tup s a) (dps_same s ds _ b)
  | .dict _, _, h => nomatch h
theorem dps_same {K : PySem.W.Frag} {H H' : Hp} (s : Same H H') : ∀ (ds : List PyData) (vs : List V), DpAll K H vs ds → DpAll K H' vs ds
  | [], _, h => by cases h; exact .nil
  | d :: ds, _, h => by cases h with | cons a b => exact .cons (dp_same s d _ a) (dps_same s ds _ b)
end
theorem dp_ints {K : PySem.W.Frag} {H : Hp} : ∀ ns : List Int, DpAll K H (ns.map V.int) (ns.map PyData.int)
  | [] => .nil
  | n :: r => .cons (.int n) (dp_ints r)
theorem eqv_ints : ∀ ns ms : List Int, PyData.eqvAll (ns.map PyData.int) (ms.map PyData.int) = decide (ns = ms)
  | [], [] => rfl
  | [], _ :: _ => rfl
  | _ :: _, [] => rfl
  | n :: r, m :: q => by
    show (PyData.eqv (.int n) (.int m) && PyData.eqvAll (r.map PyData.int) (q.map PyData.int)) = decide (n :: r = m :: q)
    rw [eqv_ints r q]
    show ((n == m) && decide (r = q)) = decide (n :: r = m :: q)
    by_cases h : n = m
    · subst h; simp
    · simp [h]
theorem lay_ints : ∀ ns : List Int, PyData.canLayAll0 (ns.map PyData.int) = true
  | [] => rfl
  | n :: r => by
    show (PyData.canLay0 (.int n) && PyData.canLayAll0 (r.map PyData.int)) = true
    rw [lay_ints r]
    rfl
theorem depth_ints : ∀ ns : List Int, PyData.depthAll (ns.map PyData.int) = 0
  | [] => by simp [PyData.depthAll]
  | n :: r => by
    show PyData.depthAll (.int n :: r.map PyData.int) = 0
    rw [PyData.depthAll, depth_ints r]
    simp [PyData.depth]
theorem shaped_ints (ns : List Int) : SeqAt.shaped (.list (ns.map PyData.int)) = true := by
  unfold SeqAt.shaped
  rw [PyData.canLay0, lay_ints, PyData.depth, depth_ints]
  rfl
theorem shaped_tup (ns : List Int) : SeqAt.shaped (.tuple (ns.map PyData.int)) = true := by
  unfold SeqAt.shaped
  rw [PyData.canLay0, lay_ints, PyData.depth, depth_ints]
  rfl
/-! ### comparisons of lists and tuples of whole numbers that are told alike -/
theorem ne_tup {K : PySem.W.Frag} {H : Hp} {a b : Addr} {ns : List Int} {Q : V → Hp → Prop} (ha : SqT K H a (ns.map V.int)) (hb : SqT K H b (ns.map V.int)) (q : Q (.bl false) H) : rNeD K (.ref a) (.ref b) H Q := by
  refine ⟨.tuple (ns.map PyData.int), .tuple (ns.map PyData.int), .tup ha (dp_ints ns), .tup hb (dp_ints ns), shaped_tup ns, shaped_tup ns, ?_⟩
  rw [PyData.eqv, eqv_ints, decide_eq_true rfl]
  exact q
theorem eq_tup {K : PySem.W.Frag} {H : Hp} {a b : Addr} {ns : List Int} {Q : V → Hp → Prop} (ha : SqT K H a (ns.map V.int)) (hb : SqT K H b (ns.map V.int)) (q : Q (.bl true) H) : rEqD K (.ref a) (.ref b) H Q := by
  refine ⟨.tuple (ns.map PyData.int), .tuple (ns.map PyData.int), .tup ha (dp_ints ns), .tup hb (dp_ints ns), shaped_tup ns, shaped_tup ns, ?_⟩
  rw [PyData.eqv, eqv_ints, decide_eq_true rfl]
  exact q
/-- lists of whole numbers, compared -/
theorem eqD_lst {K : PySem.W.Frag} {H : Hp} {a b : Addr} {ns ms : List Int} {Q : V → Hp → Prop} (ha : SqL K H a (ns.map V.int)) (hb : SqL K H b (ms.map V.int)) (q : Q (.bl (decide (ns = ms))) H) : rEqD K (.ref a) (.ref b) H Q := by
  refine ⟨.list (ns.map PyData.int), .list (ms.map PyData.int), .lst ha (dp_ints ns), .lst hb (dp_ints ms), shaped_ints ns, shaped_ints ms, ?_⟩
  rw [PyData.eqv, eqv_ints]
  exact q
theorem neD_lst {K : PySem.W.Frag} {H : Hp} {a b : Addr} {ns ms : List Int} {Q : V → Hp → Prop} (ha : SqL K H a (ns.map V.int)) (hb : SqL K H b (ms.map V.int)) (q : Q (.bl (!decide (ns = ms))) H) : rNeD K (.ref a) (.ref b) H Q := by
  refine ⟨.list (ns.map PyData.int), .list (ms.map PyData.int), .lst ha (dp_ints ns), .lst hb (dp_ints ms), shaped_ints ns, shaped_ints ms, ?_⟩
  rw [PyData.eqv, eqv_ints]
  exact q
theorem ne_lst {K : PySem.W.Frag} {H : Hp} {a b : Addr} {ns : List Int} {Q : V → Hp → Prop} (ha : SqL K H a (ns.map V.int)) (hb : SqL K H b (ns.map V.int)) (q : Q (.bl false) H) : rNeD K (.ref a) (.ref b) H Q :=
  neD_lst ha hb (by rw [decide_eq_true rfl]; exact q)
theorem eq_lst {K : PySem.W.Frag} {H : Hp} {a b : Addr} {ns : List Int} {Q : V → Hp → Prop} (ha : SqL K H a (ns.map V.int)) (hb : SqL K H b (ns.map V.int)) (q : Q (.bl true) H) : rEqD K (.ref a) (.ref b) H Q :=
  eqD_lst ha hb (by rw [decide_eq_true rfl]; exact q)
/-! ### powers -/
def CPowW (i j : Int) : Prop := 0 ≤ j ∧ (Builtin.Int.intBits i : Int) * j ≤ 2 ^ 27
theorem op_powW {X : Cx} : OpR X (binaryOp .Pow) (rI CPowW fun i j => .int (i ^ j.toNat)) := opI fun _ _ _ _ _ _ _ hc q => pow_int hc.1 hc.2 q
/-! ### comprehensions whose parts leave what is tracked as it is: sel tells of each item what comes of it -/
theorem take_fm {α : Type} {l : List (Option α)} {i : Nat} {o : Option α} (h : l[i]? = some o) : (l.take (i + 1)).filterMap id = (l.take i).filterMap id ++ o.toList := by
  rw [List.take_add_one, h, List.filterMap_append]
  cases o <;> rfl
theorem fm_len {α : Type} (l : List (Option α)) (i : Nat) : ((l.take i).filterMap id).length ≤ l.length :=
  Nat.le_trans (List.length_filterMap_le _ _) (by rw [List.length_take]; omega)
theorem lc_selL {K : PySem.W.Frag} {a : Addr} {xs : List V} {j : Nat} {tt : TT} {te : TE} {vs : List Nat} {σ : L2.St} {H1 : Hp} {D : Addr} {Qd : Hp → Prop} (sel : List (Option V)) (nD : H1 D = none) (hS : SqL K H1 a xs) (hlen : sel.length = xs.length) (hz : xs.length < sizeLine)
    (hw : ∀ x, wipe ((wipe σ vs).set j (some x)) vs = wipe σ vs)
    (hs : ∀ (i : Nat) (x : V) (o : Option V) (H' : Hp), xs[i]? = some x → sel[i]? = some o → Same H1 H' → ∀ Qt : Option V → Hp → Prop, (∀ H'', Same H' H'' → Qt o H'') →
      tt ((wipe σ vs).set j (some x)) H' fun b H3 => if b = true then te ((wipe σ vs).set j (some x)) H3 fun y H4 => Qt (some y) H4 else Qt none H3)
    (hd : ∀ H', Same H1 H' → H' D = some (.lst (sel.filterMap id)) → Qd H') :
    ∃ W : Nat → Nat → Hp → Prop, (∃ m, W 0 m (upd H1 D (.lst []))) ∧ ∀ i m H, W i m H →
      ((Itl K a).stop i H ∧ Qd H) ∨ ((Itl K a).go i H ∧ ∃ Nx : Hp → Prop, (∀ H', Nx H' → ∃ m', m' < m ∧ W (i + 1) m' H') ∧ ∀ x H', (Itl K a).yld i H x H' → gName j x (wipe σ vs) H' fun σ2 H2 => wipe σ2 vs = wipe σ vs ∧ tt σ2 H2 fun b H3 =>
        if b = true then te σ2 H3 fun y H4 => ∃ acc, H4 D = some (.lst acc) ∧ acc.length < sizeLine ∧ Nx (upd H4 D (.lst (acc ++ [y]))) else Nx H3) := by
  refine lc_list (K := K) (a := a) (xs := xs) (fun i H => Same H1 H ∧ H D = some (.lst ((sel.take i).filterMap id))) ⟨same_upd nD, upd_same⟩ (fun i H _ p => p.1.seq hS) ?_ ?_
  · rintro i x H hx ⟨s, hD⟩
    refine ⟨hw x, ?_⟩
    have hi : i < sel.length := by rw [hlen]; exact (List.getElem?_eq_some_iff.mp hx).1
    have ho : sel[i]? = some sel[i] := List.getElem?_eq_getElem hi
    have hl : ((sel.take i).filterMap id).length < sizeLine := Nat.lt_of_le_of_lt (fm_len sel i) (by omega)
    refine hs i x sel[i] H hx ho s (fun o H4 => match o with
      | some y => ∃ acc, H4 D = some (.lst acc) ∧ acc.length < sizeLine ∧ (Same H1 (upd H4 D (.lst (acc ++ [y]))) ∧ (upd H4 D (.lst (acc ++ [y]))) D = some (.lst ((sel.take (i + 1)).filterMap id)))
      | none => Same H1 H4 ∧ H4 D = some (.lst ((sel.take (i + 1)).filterMap id))) fun H4 s4 => ?_
    generalize sel[i] = o at ho ⊢
    cases o with
    | some y =>
      refine ⟨_, s4 _ _ hD, hl, same_over nD (s.trans s4), ?_⟩
      rw [upd_same, take_fm ho]
      rfl
    | none =>
      refine ⟨s.trans s4, ?_⟩
      rw [take_fm ho, s4 _ _ hD]
      simp
  · rintro H ⟨s, hD⟩
    refine hd H s ?_
    rw [hD, ← hlen, List.take_length]
theorem lc_selR {lo : Int} {n : Nat} {j : Nat} {tt : TT} {te : TE} {vs : List Nat} {σ : L2.St} {H1 : Hp} {D : Addr} {Qd : Hp → Prop} (sel : List (Option V)) (nD : H1 D = none) (hlen : sel.length = n) (hz : n < sizeLine)
    (hw : ∀ x, wipe ((wipe σ vs).set j (some x)) vs = wipe σ vs)
    (hs : ∀ (i : Nat) (o : Option V) (H' : Hp), i < n → sel[i]? = some o → Same H1 H' → ∀ Qt : Option V → Hp → Prop, (∀ H'', Same H' H'' → Qt o H'') →
      tt ((wipe σ vs).set j (some (.int (lo + (i : Int))))) H' fun b H3 => if b = true then te ((wipe σ vs).set j (some (.int (lo + (i : Int))))) H3 fun y H4 => Qt (some y) H4 else Qt none H3)
    (hd : ∀ H', Same H1 H' → H' D = some (.lst (sel.filterMap id)) → Qd H') :
    ∃ W : Nat → Nat → Hp → Prop, (∃ m, W 0 m (upd H1 D (.lst []))) ∧ ∀ i m H, W i m H →
      ((Itr lo n).stop i H ∧ Qd H) ∨ ((Itr lo n).go i H ∧ ∃ Nx : Hp → Prop, (∀ H', Nx H' → ∃ m', m' < m ∧ W (i + 1) m' H') ∧ ∀ x H', (Itr lo n).yld i H x H' → gName j x (wipe σ vs) H' fun σ2 H2 => wipe σ2 vs = wipe σ vs ∧ tt σ2 H2 fun b H3 =>
        if b = true then te σ2 H3 fun y H4 => ∃ acc, H4 D = some (.lst acc) ∧ acc.length < sizeLine ∧ Nx (upd H4 D (.lst (acc ++ [y]))) else Nx H3) := by
  refine lc_range (lo := lo) (n := n) (fun i H => Same H1 H ∧ H D = some (.lst ((sel.take i).filterMap id))) ⟨same_upd nD, upd_same⟩ ?_ ?_
  · rintro i H hi' ⟨s, hD⟩
    refine ⟨hw _, ?_⟩
    have hi : i < sel.length := by rw [hlen]; exact hi'
    have ho : sel[i]? = some sel[i] := List.getElem?_eq_getElem hi
    have hl : ((sel.take i).filterMap id).length < sizeLine := Nat.lt_of_le_of_lt (fm_len sel i) (by omega)
    refine hs i sel[i] H hi' ho s (fun o H4 => match o with
      | some y => ∃ acc, H4 D = some (.lst acc) ∧ acc.length < sizeLine ∧ (Same H1 (upd H4 D (.lst (acc ++ [y]))) ∧ (upd H4 D (.lst (acc ++ [y]))) D = some (.lst ((sel.take (i + 1)).filterMap id)))
      | none => Same H1 H4 ∧ H4 D = some (.lst ((sel.take (i + 1)).filterMap id))) fun H4 s4 => ?_
    generalize sel[i] = o at ho ⊢
    cases o with
    | some y =>
      refine ⟨_, s4 _ _ hD, hl, same_over nD (s.trans s4), ?_⟩
      rw [upd_same, take_fm ho]
      rfl
    | none =>
      refine ⟨s.trans s4, ?_⟩
      rw [take_fm ho, s4 _ _ hD]
      simp
  · rintro H ⟨s, hD⟩
    refine hd H s ?_
    rw [hD, ← hlen, List.take_length]
theorem fm_some {α : Type} (ys : List α) : (ys.map some).filterMap id = ys := by
  rw [List.filterMap_map]
  show List.filterMap (fun y => some y) ys = ys
  exact List.filterMap_some
/-- no test: ys tells what comes of each item -/
theorem lc_mapL {K : PySem.W.Frag} {a : Addr} {xs : List V} {j : Nat} {te : TE} {vs : List Nat} {σ : L2.St} {H1 : Hp} {D : Addr} {Qd : Hp → Prop} (ys : List V) (nD : H1 D = none) (hS : SqL K H1 a xs) (hlen : ys.length = xs.length) (hz : xs.length < sizeLine)
    (hw : ∀ x, wipe ((wipe σ vs).set j (some x)) vs = wipe σ vs)
    (hs : ∀ (i : Nat) (x y : V) (H' : Hp), xs[i]? = some x → ys[i]? = some y → Same H1 H' → ∀ Qt : V → Hp → Prop, (∀ H'', Same H' H'' → Qt y H'') → te ((wipe σ vs).set j (some x)) H' Qt)
    (hd : ∀ H', Same H1 H' → H' D = some (.lst ys) → Qd H') :
    ∃ W : Nat → Nat → Hp → Prop, (∃ m, W 0 m (upd H1 D (.lst []))) ∧ ∀ i m H, W i m H →
      ((Itl K a).stop i H ∧ Qd H) ∨ ((Itl K a).go i H ∧ ∃ Nx : Hp → Prop, (∀ H', Nx H' → ∃ m', m' < m ∧ W (i + 1) m' H') ∧ ∀ x H', (Itl K a).yld i H x H' → gName j x (wipe σ vs) H' fun σ2 H2 => wipe σ2 vs = wipe σ vs ∧ tYes σ2 H2 fun b H3 =>
        if b = true then te σ2 H3 fun y H4 => ∃ acc, H4 D = some (.lst acc) ∧ acc.length < sizeLine ∧ Nx (upd H4 D (.lst (acc ++ [y]))) else Nx H3) := by
  refine lc_selL (K := K) (a := a) (xs := xs) (tt := tYes) (ys.map some) nD hS (by rw [List.length_map]; exact hlen) hz hw ?_ ?_
  · intro i x o H' hx ho s Qt qt
    rw [List.getElem?_map] at ho
    obtain ⟨y, hy, rfl⟩ := Option.map_eq_some_iff.mp ho
    show if true = true then te ((wipe σ vs).set j (some x)) H' (fun y H4 => Qt (some y) H4) else Qt none H'
    exact iteT (hs i x y H' hx hy s (fun y H4 => Qt (some y) H4) qt)
  · intro H' s hD
    rw [fm_some] at hD
    exact hd H' s hD
theorem lc_mapR {lo : Int} {n : Nat} {j : Nat} {te : TE} {vs : List Nat} {σ : L2.St} {H1 : Hp} {D : Addr} {Qd : Hp → Prop} (ys : List V) (nD : H1 D = none) (hlen : ys.length = n) (hz : n < sizeLine)
    (hw : ∀ x, wipe ((wipe σ vs).set j (some x)) vs = wipe σ vs)
    (hs : ∀ (i : Nat) (y : V) (H' : Hp), i < n → ys[i]? = some y → Same H1 H' → ∀ Qt : V → Hp → Prop, (∀ H'', Same H' H'' → Qt y H'') → te ((wipe σ vs).set j (some (.int (lo + (i : Int))))) H' Qt)
    (hd : ∀ H', Same H1 H' → H' D = some (.lst ys) → Qd H') :
    ∃ W : Nat → Nat → Hp → Prop, (∃ m, W 0 m (upd H1 D (.lst []))) ∧ ∀ i m H, W i m H →
      ((Itr lo n).stop i H ∧ Qd H) ∨ ((Itr lo n).go i H ∧ ∃ Nx : Hp → Prop, (∀ H', Nx H' → ∃ m', m' < m ∧ W (i + 1) m' H') ∧ ∀ x H', (Itr lo n).yld i H x H' → gName j x (wipe σ vs) H' fun σ2 H2 => wipe σ2 vs = wipe σ vs ∧ tYes σ2 H2 fun b H3 =>
        if b = true then te σ2 H3 fun y H4 => ∃ acc, H4 D = some (.lst acc) ∧ acc.length < sizeLine ∧ Nx (upd H4 D (.lst (acc ++ [y]))) else Nx H3) := by
  refine lc_selR (lo := lo) (n := n) (tt := tYes) (ys.map some) nD (by rw [List.length_map]; exact hlen) hz hw ?_ ?_
  · intro i o H' hi ho s Qt qt
    rw [List.getElem?_map] at ho
    obtain ⟨y, hy, rfl⟩ := Option.map_eq_some_iff.mp ho
    show if true = true then te ((wipe σ vs).set j (some (.int (lo + (i : Int))))) H' (fun y H4 => Qt (some y) H4) else Qt none H'
    exact iteT (hs i y H' hi hy s (fun y H4 => Qt (some y) H4) qt)
  · intro H' s hD
    rw [fm_some] at hD
    exact hd H' s hD
/-- an item of a list of whole numbers -/
theorem int_at {ns : List Int} {i : Nat} {x : V} (h : (ns.map V.int)[i]? = some x) : ∃ n, ns[i]? = some n ∧ x = .int n := by
  rw [List.getElem?_map] at h
  obtain ⟨n, hn, e⟩ := Option.map_eq_some_iff.mp h
  exact ⟨n, hn, e.symm⟩
/-! ### rules with the written part named (within a comprehension Lean doesn't find it) -/
section
variable {X : Cx}
theorem k_len (K : PySem.W.Frag) (h : X.K = K) : CallR X (.builtin "len") (fun xs H Q => ∃ p ys, xs = [.ref p] ∧ (SqL K H p ys ∨ SqT K H p ys) ∧ Q (.int ys.length) H) := by subst h; exact call_len_seq
theorem k_sum (K : PySem.W.Frag) (h : X.K = K) (hc : X.calm = true) : CallR X (.builtin "sum") (rSum K) := by subst h; exact cr_sum hc
theorem k_max (K : PySem.W.Frag) (h : X.K = K) (hc : X.calm = true) : CallR X (.builtin "max") (rMax K) := by subst h; exact cr_max hc
theorem k_min (K : PySem.W.Frag) (h : X.K = K) (hc : X.calm = true) : CallR X (.builtin "min") (rMin K) := by subst h; exact cr_min hc
theorem k_isi (K : PySem.W.Frag) (h : X.K = K) : CallR X (.builtin "isinstance") (rIsi K) := by subst h; exact call_isi
theorem k_listOf (K : PySem.W.Frag) (h : X.K = K) : CallR X (.type "list") (fun xs H Q => ∃ p ys, xs = [.ref p] ∧ (SqL K H p ys ∨ SqT K H p ys) ∧ ∀ l, H l = none → Q (.ref l) (upd H l (.lst ys))) := by subst h; exact call_list_of
theorem k_tupleOf (K : PySem.W.Frag) (h : X.K = K) : CallR X (.type "tuple") (fun xs H Q => ∃ p ys, xs = [.ref p] ∧ ((SqL K H p ys ∧ ∀ l, H l = none → Q (.ref l) (upd H l (.tup ys))) ∨ (SqT K H p ys ∧ Q (.ref p) H))) := by subst h; exact call_tuple_of
theorem k_ixL (K : PySem.W.Frag) (h : X.K = K) : IxR X (rIxL K) := by subst h; exact ix_list
theorem k_ixT (K : PySem.W.Frag) (h : X.K = K) : IxR X (rIxT K) := by subst h; exact ix_tup
theorem k_slL (K : PySem.W.Frag) (h : X.K = K) : SlR X (rSlL K) := by subst h; exact sl_list
theorem k_slT (K : PySem.W.Frag) (h : X.K = K) : SlR X (rSlT K) := by subst h; exact sl_tup
theorem k_eqD (K : PySem.W.Frag) (h : X.K = K) (hu : X.A.units + 64 < cLine) : OpR X (compareOp .Eq) (rEqD K) := by subst h; exact op_eqD hu
theorem k_neD (K : PySem.W.Frag) (h : X.K = K) (hu : X.A.units + 64 < cLine) : OpR X (compareOp .NotEq) (rNeD K) := by subst h; exact op_neD hu
theorem k_in (K : PySem.W.Frag) (h : X.K = K) : OpR X (compareOp .In) (rIn K false) := by subst h; exact op_in_seq
theorem k_notIn (K : PySem.W.Frag) (h : X.K = K) : OpR X (compareOp .NotIn) (rIn K true) := by subst h; exact op_notIn_seq
theorem k_piL (K : PySem.W.Frag) (h : X.K = K) {tg l : Expr} {tl : TE} (hl : PE X l tl) : PI X tg l (iList K tl) := by subst h; exact pi_list hl
theorem k_piT (K : PySem.W.Frag) (h : X.K = K) {tg l : Expr} {tl : TE} (hl : PE X l tl) : PI X tg l (iTup K tl) := by subst h; exact pi_tup hl
theorem k_piE (K : PySem.W.Frag) (h : X.K = K) {e : Expr} {ta : TA} {p pos tpos : Pos} {elts : List Expr} {kk : Nat} (hg : Gl X "enumerate") (hm : X.mg "enumerate" = none) (ha : PA X [e] ta) (hs : starEach [e] X.env = [(false, eval e X.env)] := by rfl) : PI X (.Tuple elts kk tpos) (.Call (.Name "enumerate" p) [e] [] pos) (iEnum K ta) := by subst h; exact pi_enum hg hm ha hs
theorem k_pgT (K : PySem.W.Frag) (h : X.K = K) {es : List Expr} {k : Nat} {t : TGs} {n : Nat} {pos : Pos} (hc : X.calm = true) (hp : PGs X es t) (hn : (assignEach es X.env).length = n := by rfl) (hst : (assignEach es X.env).findIdx? (·.1) = none := by rfl) : PG X (.Tuple es k pos) (gTup K n t) := by subst h; exact pg_tup hc hp hn hst
theorem k_pgL (K : PySem.W.Frag) (h : X.K = K) {es : List Expr} {k : Nat} {t : TGs} {n : Nat} {pos : Pos} (hc : X.calm = true) (hp : PGs X es t) (hn : (assignEach es X.env).length = n := by rfl) (hst : (assignEach es X.env).findIdx? (·.1) = none := by rfl) : PG X (.Tuple es k pos) (gUnl K n t) := by subst h; exact pg_unl hc hp hn hst
theorem k_fld (K : PySem.W.Frag) (h : X.K = K) {e : Expr} {f : Str} {pos : Pos} {ta : TE} (he : PE X e ta) (hb : attributeBase e f X.env (eval e X.env) = eval e X.env) : PE X (.Attribute e f pos) (tFld K ta f) := by subst h; exact pe_fld he hb
theorem k_index (K : PySem.W.Frag) (h : X.K = K) : MtR X "list.index" (rIndex K) := by subst h; exact mt_index
end
/-! ### small things -/
theorem fresh {H : Hp} {p : Addr} (o : HO) (np : H p = none) : ∃ H', upd H p o = H' ∧ Same H H' ∧ H' p = some o := ⟨_, rfl, same_upd np, upd_same⟩
theorem cut_take (xs : List V) (k : Nat) : cutV xs none (some (k : Int)) = xs.take k := by
  unfold cutV
  rw [HT.sIx_nat, HT.sIx_none, List.drop_zero, Nat.sub_zero]
  rcases Nat.le_total k xs.length with h | h
  · rw [Nat.min_eq_left h]
  · rw [Nat.min_eq_right h, List.take_of_length_le h, List.take_length]
theorem cut_drop (xs : List V) (k : Nat) : cutV xs (some (k : Int)) none = xs.drop k := by
  unfold cutV
  rw [HT.sIx_nat, HT.sIx_none]
  rcases Nat.le_total k xs.length with h | h
  · rw [Nat.min_eq_left h, List.take_of_length_le (by rw [List.length_drop]; exact Nat.le_refl _)]
  · rw [Nat.min_eq_right h, List.drop_length, List.drop_of_length_le h, List.take_nil]
theorem rep_ints (k : Nat) (ks : List Int) : (List.replicate k (ks.map V.int)).flatten = ((List.replicate k ks).flatten).map V.int := by
  rw [List.map_flatten, List.map_replicate]
theorem rep_len {α : Type} (k : Nat) (ks : List α) : ((List.replicate k ks).flatten).length = k * ks.length := by
  induction k with
  | zero => simp
  | succ k ih => rw [List.replicate_succ, List.flatten_cons, List.length_append, ih, Nat.succ_mul]; omega
theorem rep_mem {α : Type} {k : Nat} {ks : List α} {x : α} (h : x ∈ (List.replicate k ks).flatten) : x ∈ ks := by
  obtain ⟨l, hl, hx⟩ := List.mem_flatten.mp h
  rw [(List.mem_replicate.mp hl).2] at hx
  exact hx
/-! ### comprehensions that make new things: R tells what is known of the i-th; D is no part of it -/
def Off (D : Addr) (H H' : Hp) : Prop := ∀ b o, b ≠ D → H b = some o → H' b = some o
def RelPv (R : Nat → V → Hp → Prop) (H1 : Hp) (D : Addr) (i : Nat) (H : Hp) : Prop := ∃ ys : List V, Same H1 H ∧ H D = some (.lst ys) ∧ ys.length = i ∧ ∀ (k : Nat) (y : V), ys[k]? = some y → R k y H
theorem lc_relR {lo : Int} {n : Nat} {j : Nat} {te : TE} {vs : List Nat} {σ : L2.St} {H1 : Hp} {D : Addr} {Qd : Hp → Prop} (R : Nat → V → Hp → Prop) (nD : H1 D = none) (hz : n < sizeLine)
    (mono : ∀ i y H H', Off D H H' → R i y H → R i y H')
    (hw : ∀ x, wipe ((wipe σ vs).set j (some x)) vs = wipe σ vs)
    (hs : ∀ (i : Nat) (H' : Hp) (xs : List V), i < n → Same H1 H' → H' D = some (.lst xs) → ∀ Qt : V → Hp → Prop, (∀ y H'', Same H' H'' → R i y H'' → Qt y H'') → te ((wipe σ vs).set j (some (.int (lo + (i : Int))))) H' Qt)
    (hd : ∀ H' ys, Same H1 H' → H' D = some (.lst ys) → ys.length = n → (∀ (i : Nat) (y : V), ys[i]? = some y → R i y H') → Qd H') :
    ∃ W : Nat → Nat → Hp → Prop, (∃ m, W 0 m (upd H1 D (.lst []))) ∧ ∀ i m H, W i m H →
      ((Itr lo n).stop i H ∧ Qd H) ∨ ((Itr lo n).go i H ∧ ∃ Nx : Hp → Prop, (∀ H', Nx H' → ∃ m', m' < m ∧ W (i + 1) m' H') ∧ ∀ x H', (Itr lo n).yld i H x H' → gName j x (wipe σ vs) H' fun σ2 H2 => wipe σ2 vs = wipe σ vs ∧ tYes σ2 H2 fun b H3 =>
        if b = true then te σ2 H3 fun y H4 => ∃ acc, H4 D = some (.lst acc) ∧ acc.length < sizeLine ∧ Nx (upd H4 D (.lst (acc ++ [y]))) else Nx H3) := by
  refine lc_range (lo := lo) (n := n) (RelPv R H1 D) ⟨[], same_upd nD, upd_same, rfl, fun k y h => by simp at h⟩ ?_ ?_
  · rintro i H hi ⟨ys, s, hD, hl, hR⟩
    refine ⟨hw _, ?_⟩
    show if true = true then te ((wipe σ vs).set j (some (.int (lo + (i : Int))))) H (fun y H4 => ∃ acc, H4 D = some (.lst acc) ∧ acc.length < sizeLine ∧ RelPv R H1 D (i + 1) (upd H4 D (.lst (acc ++ [y])))) else RelPv R H1 D (i + 1) H
    refine iteT (hs i H ys hi s hD _ fun y H4 s4 r4 => ?_)
    refine ⟨ys, s4 _ _ hD, by omega, ys ++ [y], same_over nD (s.trans s4), upd_same, by rw [List.length_append, hl]; rfl, fun k z hz => ?_⟩
    have off : Off D H4 (upd H4 D (.lst (ys ++ [y]))) := fun b o nb h => by rw [upd_ne nb]; exact h
    by_cases hk : k < ys.length
    · rw [List.getElem?_append_left hk] at hz
      exact mono k z H _ (fun b o nb h => off b o nb (s4 b o h)) (hR k z hz)
    · rw [List.getElem?_append_right (by omega)] at hz
      have hk2 : k - ys.length = 0 := by
        have h2 := (List.getElem?_eq_some_iff.mp hz).1
        rw [List.length_singleton] at h2
        omega
      rw [hk2] at hz
      cases hz
      have ek : k = i := by omega
      rw [ek]
      exact mono i y H4 _ off r4
  · rintro H ⟨ys, s, hD, hl, hR⟩
    exact hd H ys s hD hl hR
/-! ### ways that are told by whole numbers -/
theorem iteDT {p A B : Prop} [Decidable p] (hp : p) (h : A) : if decide p = true then A else B := by rw [decide_eq_true hp]; exact iteT h
theorem iteDF {p A B : Prop} [Decidable p] (hp : ¬ p) (h : B) : if decide p = true then A else B := by rw [decide_eq_false hp]; exact iteF h
theorem iteNT {p A B : Prop} [Decidable p] (hp : ¬ p) (h : A) : if (!decide p) = true then A else B := by rw [decide_eq_false hp]; exact iteT h
theorem iteNF {p A B : Prop} [Decidable p] (hp : p) (h : B) : if (!decide p) = true then A else B := by rw [decide_eq_true hp]; exact iteF h
theorem iteET {a b : Int} {A B : Prop} [Decidable (V.int a = V.int b)] (hp : a = b) (h : A) : if decide (V.int a = V.int b) = true then A else B := iteDT (congrArg V.int hp) h
theorem iteEF {a b : Int} {A B : Prop} [Decidable (V.int a = V.int b)] (hp : ¬ a = b) (h : B) : if decide (V.int a = V.int b) = true then A else B := iteDF (fun z => hp (V.int.inj z)) h
theorem iteENT {a b : Int} {A B : Prop} [Decidable (V.int a = V.int b)] (hp : ¬ a = b) (h : A) : if (!decide (V.int a = V.int b)) = true then A else B := iteNT (fun z => hp (V.int.inj z)) h
theorem iteENF {a b : Int} {A B : Prop} [Decidable (V.int a = V.int b)] (hp : a = b) (h : B) : if (!decide (V.int a = V.int b)) = true then A else B := iteNF (congrArg V.int hp) h
theorem iteNtt {A B : Prop} (h : B) : if (!true) = true then A else B := h
theorem iteNff {A B : Prop} (h : A) : if (!false) = true then A else B := h
/-- 1 or 0 of a comparison -/
theorem int_if {p : Prop} [Decidable p] : (if decide p = true then (1 : Int) else 0) = if p then 1 else 0 := by by_cases h : p <;> simp [h]
end Pre

namespace My
open PySem PySem.Spec PyProof.Rows L2
/-! ### own errors whose __init__ says super().__init__(value); self.value = value -/
namespace Sup
open PySem.W PySem.Calls
section
variable {prog : Program} {w : World} {A : Around} {E : Value → Shared → Prop} {h : Heap} {g : Array GenState} {d : Drawn} {t : Nat} {os : OsState}
variable {nm q : Str} {C N : Addr} {bs bm : List Value} {hdct : Bool} {sn : List Str} {sub : List Value} {ab : Bool} {col : Option Bool} {dd : Option Addr} {k0 k1 k2 k3 k5 : Option Value}
theorem call_bwV {u e t0 : Addr} {rest : List Value} {Q : Value → Shared → Prop}
    (hC : h.get? C = some (excClassObj nm q C N bs bm hdct sn sub ab col dd k0 k1 k2 k3 k5 "ValueError.__new__")) (he : h.get? e = some (HandSPX.excO C t0)) (hu : h.get? u = some (kxs_mw "ValueError.__init__" e)) (hrest : rest.length ≤ sizeLine)
    (hq : ∀ h' t1, (∀ b o, b ≠ e → h.get? b = some o → h'.get? b = some o) → h'.get? e = some (HandSPX.excO C t1) → Q .none ⟨h', g, d, t, os⟩) :
    wpAny (model prog w) A (call (.ref u) rest) Q E ⟨h, g, d, t, os⟩ := by
  refine wpAny_call (codeAny_of_tree ?_)
  show wpAny _ A.in1 (callAny (.ref u) ⟨rest, []⟩) _ _ _
  simp only [callAny]
  refine wpAny_bind (wpAny_load hu ?_)
  simp only [kxs_mw, show (Value.type "method-wrapper" == Value.type "method" || Value.type "method-wrapper" == Value.type "builtin_function_or_method" || Value.type "method-wrapper" == Value.type "method-wrapper") = true by decide, if_true]
  refine W.KFB.if_so (by decide) ?_
  refine wpAny_bind (ESX.check_bound F.excBase_ValueError hC he rfl ?_)
  refine wpAny_bind (wpAny_pure (wpAny_pure ?_))
  refine ⟨Code.quiet_builtin _ (by decide +kernel), codeAny_builtin F.excBase_ValueError.initEntry ?_⟩
  rw [Around.under_plainId F.excBase_ValueError.init.plain _]
  exact exc_init_tree (cls := .ref C) (t0 := t0) (dv := none) (c2 := .none) (c3 := .none) (b4 := .bool false) he hrest fun h' k e' _ => hq h' _ k e'
end
/-- the file of the program: what its code objects are asked for -/
class PF (P : Program) (file : Str) : Prop where
  file : ((P.main.file : Str) == file) = true
  top : (P.main.scope.names.lookup ("super" : Str)).isSome = false
/-- what the written part says of such a class C, named x, and its __init__ at fI -/
structure SupC (K : Frag) (file x : Str) (st : Stmt) (C fI : Addr) (fd : FuncData) : Prop where
  T : OexC K C
  ex : ∃ (oc : Value) (od : Option Addr) (dV kV doc pm : Value) (an : Option Addr) (c cc : Addr) (ct : Value) (osl : Array (Option Value)),
    fd = ksFn "__init__" (x ++ (".__init__" : Str)) (defArgs st) (defBody st) (defScope st) dV kV doc pm an (.ref c) ct cc ∧ K.lookup fI = some ⟨oc, od, .func fd, osl⟩ ∧ codeIn K (.ref c) (x ++ (".__init__" : Str)) = true ∧
    (∃ (ccl : Value) (cdd : Option Addr) (vs : Array Value) (ccs : Array (Option Value)) (tf : Tok), K.lookup c = some ⟨ccl, cdd, .fields vs, ccs⟩ ∧ vs[2]? = some (.str file tf)) ∧ (∃ (cl : Value) (cld : Option Addr) (csl : Array (Option Value)), K.lookup cc = some ⟨cl, cld, .cell (some (.ref C)), csl⟩)
  sup : ks_superIn K C C "__init__" = some (some (.builtin "ValueError.__init__"))
  subV : subIn K (.ref C) (.type "ValueError") = some true
  subC : mroIn K C (.ref C) = some true
  opq : nsIn K cStatics "thirdparty.any" = some none
  nov : findIn K (.ref C) "value" = some none
/-- the body's shape -/
def SupBody (st : Stmt) : Prop := ∃ p0 p1 p2 p3 p4 p5 p6 p7 p8 p9 : Pos,
  defBody st = [.Expr (.Call (.Attribute (.Call (.Name "super" p0) [] [] p1) "__init__" p2) [.Name "value" p3] [] p4) p5, .Assign [.Attribute (.Name "self" p6) "value" p7] (.Name "value" p8) p9] ∧
  ((defArgs st).posonlyargs ++ (defArgs st).args).head?.map (·.arg) = some ("self" : Str) ∧
  ∀ env : Env, ∃ pl : Sem Bool, eval (.Call (.Attribute (.Call (.Name "super" p0) [] [] p1) "__init__" p2) [.Name "value" p3] [] p4) env = (do
      let ov ← attributeBase (.Call (.Name "super" p0) [] [] p1) "__init__" env (eval (.Call (.Name "super" p0) [] [] p1) env)
      standAt p2.atName
      let (f, first) ← holding [ov] (getMethod ov "__init__" pl)
      callWith p4 f first (backTo p4 (starEach [.Name "value" p3] env)) [])
def sp_exc_init (C : Addr) : Sp := fun vs H Q _ => ∃ (a : Addr) (v : V), vs = [.ref a, v] ∧ H a = some (exo a C none) ∧ ∀ d, H d = none → d ≠ a → Q .non (upd (upd H d (exd d [("value", v)])) a (exo a C (some d)))
section
variable {P : Program} {w : World} {K : Frag} {mg : Str → Option Value} {base : Heap} {CX : CXT} {file x : Str} {st : Stmt} {C fI : Addr} {fd : FuncData}
theorem fn_sup [pf : PF P file] (S : NdefX.NScope ["self", "value", "__class__"] ["self", "value"] ["__class__"] (defScope st)) (hgs : (defScope st).names.lookup ("super" : Str) = some .globalImplicit) (hb0 : SupBody st) (F : SupC K file x st C fI fd) (nosup : mg ("super" : Str) = none) :
    FnOk P w K mg base CX 1 fI fd ["self", "value"] (sp_exc_init C) := by
  refine ⟨fun vs H Q E h => by obtain ⟨a, v, rfl, _⟩ := h; rfl, fun A outer s H args us vs Q E hr e0 hb rv hsp => ?_⟩
  obtain ⟨a, v, rfl, ha, q⟩ := hsp
  obtain ⟨oc, od, dV, kV, doc, pm, an, c, cc, ct, osl, rfl, lk, hcd, ⟨ccl, cdd, cvs, ccs, tf, lkc, hvs⟩, cl, cld, csl, lkcc⟩ := F.ex
  obtain ⟨p0, p1, p2, p3, p4, p5, p6, p7, p8, p9, hbody, hself, hev⟩ := hb0
  obtain ⟨pl, hpl⟩ := hev (NdefX.envF ⟨"__init__", x ++ (".__init__" : Str), defArgs st, defBody st, defScope st, [("__class__", cc)], c⟩ fI s.heap.objs.size)
  have hin : K.In s.heap := e0.mod.kin.keeps fun b o z => (e0.bs b o z).1
  have lim : s.heap.NoLimit := e0.mod.nolimit.keeps fun b o e => (e0.bs b o e).1
  let Fn : NdefX.NF := ⟨"__init__", x ++ (".__init__" : Str), defArgs st, defBody st, defScope st, [("__class__", cc)], c⟩
  refine codeAny_call_function hr.depth (hin _ _ lk) rfl S.co S.gen rfl (codeRec_of hin hcd) (hb _ _ _ _ ?_)
  refine wpAny_newFunctionEnv S.nocell (fun ⟨n, _⟩ hy => S.par n (List.of_mem_zip hy).1) (fun h₁ hns hsb => ⟨lim.fresh _ hsb, ?_⟩) S.kind
  show codeAny _ _ (.func (defBody st) (NdefX.envF Fn fI s.heap.objs.size)) _ _
  have kp : ∀ b o, s.heap.get? b = some o → h₁.get? b = some o := fun b o e => hsb.extBut b o (Nat.ne_of_lt (Heap.lt_size e)) (Heap.get?_push_of_some _ e)
  have hcc : ∀ y c', ([("__class__", cc)] : List (Str × Addr)).lookup y = some c' → y = ("__class__" : Str) ∧ c' = cc := fun y c' e => by
    by_cases h : y = ("__class__" : Str)
    · subst h
      cases e
      exact ⟨rfl, rfl⟩
    · rw [List.lookup_cons, show (y == ("__class__" : Str)) = false by simpa using h] at e
      cases e
  have cells : NdefX.CellsAt Fn.cl ["__class__"] [some (.ref C)] s.heap H := {
    len := rfl
    all := fun y c' e => by
      obtain ⟨_, rfl⟩ := hcc y c' e
      exact ⟨(e0.bs _ _ (e0.mod.kin _ _ lkcc)).2, _, _, hin _ _ lkcc, rfl⟩
    inj := fun y z c' e1 e2 => by rw [(hcc y c' e1).1, (hcc z c' e2).1]
    has := fun i y e => by
      cases i with
      | zero =>
        cases e
        refine ⟨cc, rfl, fun u hu => ?_⟩
        cases hu
        exact ⟨.ref C, rfl, _, hin _ _ lkcc, rfl⟩
      | succ i => simp at e }
  have I : Inv (NdefX.ncx CX P w K mg base ["self", "value", "__class__"] Fn fI A outer s H E) [] (NdefX.startF ["self", "value", "__class__"] [.ref a, v] [some (.ref C)]) H { s with heap := h₁, toks := s.toks + (["self", "value"].zip us).length } := NdefX.inv_startN S hr.hd e0 rfl rv cells hns kp
  obtain ⟨nm, q0, N, bs, bm, sn, sub, ab, col, dd, k0, k1, k2, k3, k5, hC, hbm⟩ := F.T.cls
  have hcl : clsIn K C = some { name := nm, bases := bs, mro := .ref C :: bm, ns := N, qualname := q0, hasDict := true, slotNames := sn, subclasses := sub, abstract := ab, collection := col, hasDel := false } := by unfold clsIn; rw [hC] <;> rfl
  refine ks_codeAny_funcAt ?_
  rw [hbody]
  obtain ⟨ar, hp, har⟩ : ∃ ar, ((defArgs st).posonlyargs ++ (defArgs st).args).head? = some ar ∧ ar.arg = ("self" : Str) := by
    cases e : ((defArgs st).posonlyargs ++ (defArgs st).args).head? with
    | none => rw [e] at hself; cases hself
    | some ar => rw [e] at hself; exact ⟨ar, rfl, Option.some.inj hself⟩
  have X1 : K.In h₁ := hin.keeps kp
  obtain ⟨ual, rfl⟩ : ∃ u1, us = [.ref a, u1] := by
    cases rv with
    | cons r1 r2 => cases r2 with
      | cons r3 r4 => cases r4; cases r1; exact ⟨_, rfl⟩
  refine ks_wpAt_execs_cons (ks_wpAt_Expr_any (ks_wpAt_MethodCall (pl := pl) ?_ hpl) I.quiet)
  refine ks_wpAt_super_base (env := NdefX.envF Fn fI s.heap.objs.size) hgs (S.frk _ (by simp)) (by decide) rfl (X1 _ _ lk) rfl hp rfl (X1 _ _ lkc) rfl hvs pf.file pf.top ?_
  obtain ⟨mb, hb1, hb2⟩ := I.mod.blt
  refine ks_loadName_global S.kind hgs (loadGlobal_builtin (env := NdefX.envF Fn fI s.heap.objs.size) (I.mod.glob.keeps I.bk) nosup (hb1.keeps I.bk) ((hb2 _ (by decide)).trans (show bootBuiltins "super" = some (.type "super") by decide +kernel)) ⟨rfl, ?_⟩)
  refine wpAny_loadName_free S.kind (S.frk _ (by simp)) rfl ⟨_, X1 _ _ lkcc, rfl⟩ ?_
  rw [har]
  refine wpAny_loadName_local S.kind (S.par _ (by simp)) hns rfl ?_
  obtain ⟨t1, he0⟩ := exo_at e0.hok ha
  have he1 := kp _ _ he0
  refine ks_wpAny_isType_cls (X1 _ _ hC) rfl ⟨rfl, ?_⟩
  refine ks_wpAny_call_super (X1 _ _ hC) rfl he1 rfl (fun c e => by cases e) (looks_mroIn X1 F.subC) (fun h2 hso k2 => ?_)
  have X2 : K.In h2 := X1.keeps k2
  have he2 := k2 _ _ he1
  have IA : InstAt h2 a (HandSPX.excO C t1) C none := ⟨he2, rfl, rfl, trivial⟩
  have hf := F.sup
  unfold ks_superIn at hf
  rw [hcl] at hf
  refine kxs_getMethod kxs_ValueError hso (looks_opaque X2 F.opq) (l₀ := .ref C :: bm) (fun A Q E s k q => wpAny_bind ((looks_clsIn X2 hcl) A _ E s k (wpAny_pure q))) rfl X2 hf (IA.type.andThen (looks_subIn X2 F.subV)) (ks_ne X2 IA hcl) (by decide) ?_
  have k3 : ∀ b o, h₁.get? b = some o → (h2.push (kxs_mw "ValueError.__init__" a)).get? b = some o := fun b o e => Heap.get?_push_of_some _ (k2 b o e)
  have I3 := I.kept (h' := h2.push (kxs_mw "ValueError.__init__" a)) (t' := s.toks + (["self", "value"].zip [Value.ref a, ual]).length + 1) k3
  refine kxs_callWith (i := "ValueError.__init__") (x := a) rfl ?_
  rw [show starEach [Expr.Name "value" p3] (NdefX.envF Fn fI s.heap.objs.size) = (false, eval (.Name "value" p3) (NdefX.envF Fn fI s.heap.objs.size)) :: starEach [] (NdefX.envF Fn fI s.heap.objs.size) from rfl]
  refine evalArgs_plain ?_
  refine spliced_cons ?_
  obtain ⟨m, hn, hl⟩ := I3.loc
  obtain ⟨u, ru, l⟩ := hl 1 "value" v rfl rfl (.inl (S.par _ (by simp)))
  have fin : wpAny (model P w) (A.deeper (NdefX.envF Fn fI s.heap.objs.size)) (eval (.Name "value" p3) (NdefX.envF Fn fI s.heap.objs.size)) (fun z s' => z = u ∧ s' = { s with heap := h2.push (kxs_mw "ValueError.__init__" a), toks := s.toks + (["self", "value"].zip [Value.ref a, ual]).length + 1 }) (fun e s' =>
      wpAny (model P w) (A.deeper (NdefX.envF Fn fI s.heap.objs.size)) (leaving (NdefX.envF Fn fI s.heap.objs.size) e)
        (fun x s'' => CR CX outer P w H s Q E (Except.error e) s'')
        (fun e' s'' => CR CX outer P w H s Q E (Except.error e') s'') s') { s with heap := h2.push (kxs_mw "ValueError.__init__" a), toks := s.toks + (["self", "value"].zip [Value.ref a, ual]).length + 1 } := by
    rcases l with ⟨hk, hm⟩ | ⟨hk, _⟩
    · exact wpAny_Name (wpAny_loadName_local S.kind hk hn hm ⟨rfl, rfl⟩) (by decide)
    · have hv : (defScope st).names.lookup ("value" : Str) = some .local := S.par _ (by simp)
      rcases hk with hk | hk <;> exact absurd (hv.symm.trans hk) (by intro z; cases z)
  refine wpAny_mono fin (fun z s' hz => ?_) fun _ _ z => z
  obtain ⟨rfl, rfl⟩ := hz
  refine spliced_nil ⟨Heap.get?_push_at rfl rfl, ?_⟩
  refine call_bwV (e := a) (t0 := t1) (X2.keeps (fun b o e => Heap.get?_push_of_some _ e) _ _ hC) (Heap.get?_push_of_some _ he2) (Heap.get?_push_at rfl rfl) (by show 1 ≤ sizeLine; decide) fun h' t2 k4 hx => ?_
  refine wpAt_of_wpAny ?_
  have J := I3.write (t' := s.toks + (["self", "value"].zip [Value.ref a, ual]).length + 1) (x := a) (e := a) (o := exo a C none) (by rw [ha]; exact True.intro) (.inl rfl) k4 ⟨_, hx⟩ (exo_ok hx)
  have eu : upd H a (exo a C none) = H := by
    funext b
    by_cases hb : b = a
    · rw [hb, upd_same, ha]
    · rw [upd_ne hb]
  rw [eu] at J
  have ht : PSs (NdefX.ncx CX P w K mg base ["self", "value", "__class__"] Fn fI A outer s H E) [.Assign [.Attribute (.Name "self" p6) "value" p7] (.Name "value" p8) p9] (tOst K "value" (tVar 0) (tVar 1)) :=
    pss_one (ps_ost (pe_var (i := 0) rfl (.inl (S.par _ (by simp)))) (pe_var (i := 1) rfl (.inl (S.par _ (by simp)))))
  refine wpAny_mono (ht.run [] _ _ H { nx := fun _ H' => Q .non H', rt := Q } J ⟨v, rfl, .ref a, rfl, a, C, rfl, F.T, F.nov, .inl ⟨ha, fun dx n ne => q dx n ne⟩⟩) (fun fl s' hs => ?_) fun e s' hs => hs
  have fin : ∀ {σ' : L2.St} {H' : Hp} {v : V} {u : Value}, Inv (NdefX.ncx CX P w K mg base ["self", "value", "__class__"] Fn fI A outer s H E) [] σ' H' s' → L2.RelV v u → Q v H' → CE outer P w H s Q u s' :=
    fun {σ' H' v u} J rv q => ⟨v, H', J.os, J.bare, J.base, J.hok, rv, q⟩
  cases fl with
  | ret u =>
    obtain ⟨v, σ', H', J, rv, q⟩ := hs
    exact fin J rv q
  | next =>
    obtain ⟨σ', H', J, q⟩ := hs
    exact fin (v := V.non) (u := Value.none) J rfl q
  | brk =>
    obtain ⟨_, _, _, q⟩ := hs
    exact False.elim q
  | cont =>
    obtain ⟨_, _, _, q⟩ := hs
    exact False.elim q
end
end Sup
end My

namespace My
open PySem PySem.Spec PyProof.Rows L2
/-! ### such an error raised; its value in an except suite; several clauses with a name -/
/-- what is left to be shown behind the making of such an error with the value v -/
theorem mk_sup {C : Addr} {v : V} {H1 : Hp} {Q : XK} (q : ∀ d, H1 d = none → Q (.ref C) (some d) (upd H1 d (.xd [("value", v)]))) : [v].length ≤ 1000 ∧ ∀ a, H1 a = none → Sup.sp_exc_init C (.ref a :: ([v] ++ [])) (upd H1 a (exo a C none))
    (fun w H2 => w = .non ∧ ∃ (d : Addr) (fs : List (Str × V)), H2 a = some (exo a C (some d)) ∧ H2 d = some (exd d fs) ∧ H1 d = none ∧ Q (.ref C) (some d) (upd (del H2 a) d (.xd fs))) (fun _ _ _ => False) := by
  refine ⟨by show 1 ≤ 1000; decide, fun a na => ⟨a, v, rfl, upd_same, fun d nd da => ⟨rfl, d, [("value", v)], upd_same, ?_, ?_, ?_⟩⟩⟩
  · rw [upd_ne da, upd_same]
  · rw [upd_ne da] at nd
    exact nd
  · have hn : H1 d = none := by rw [upd_ne da] at nd; exact nd
    have e : upd (del (upd (upd (upd H1 a (exo a C none)) d (exd d [("value", v)])) a (exo a C (some d))) a) d (.xd [("value", v)]) = upd H1 d (.xd [("value", v)]) := by
      funext b
      by_cases hb : b = d
      · rw [hb, upd_same, upd_same]
      · rw [upd_ne hb, upd_ne hb]
        by_cases hba : b = a
        · rw [hba, del_same, na]
        · rw [del_ne hba, upd_ne hba, upd_ne hb, upd_ne hba]
    rw [e]
    exact q d hn
/-- the reading of err.f, the class of err told there -/
def tXfA (K : PySem.W.Frag) (a : Addr) (cls : Value) (d : Option Addr) (f : Str) (te : TE) : TE := fun σ H Q => te σ H fun x H1 => x = .ref a ∧ ∃ C : Addr, cls = .ref C ∧ XfC K C ∧ PySem.W.findIn K (.ref C) f = some none ∧ ∃ (dd : Addr) (fs : List (Str × V)) (v : V), d = some dd ∧ H1 dd = some (.xd fs) ∧ fs.lookup f = some v ∧ Q v H1
theorem pe_xfA {X : Cx} {a : Addr} {oe : Obj} {cls : Value} {d : Option Addr} {pn : List (Addr × Obj)} {e : Expr} {te : TE} {pos : Pos} {n : Str}
    (hz : Zc cls d oe) (hf : ∃ vs, oe.data = .fields vs) (he : PE (X.suite a ((a, oe) :: pn)) e te) (hb : attributeBase e n X.env (eval e X.env) = eval e X.env := by rfl) :
    PE (X.suite a ((a, oe) :: pn)) (.Attribute e n pos) (tXfA X.K a cls d n te) := by
  refine ⟨fun pins s σ H Q I h => ?_⟩
  refine attr_of hb (thn (he.run pins s σ H _ I h) fun u s1 hh => ?_)
  obtain ⟨x, H1, I1, rx, ex, C, ec, T, hno, dd, fs, v, ed, ea, l, q⟩ := hh
  subst ex
  obtain rfl : u = Value.ref a := rx
  subst ec
  subst ed
  obtain ⟨ha, _⟩ := I1.pin (a, oe) (List.mem_append_left _ List.mem_cons_self)
  obtain ⟨vs, hd⟩ := hf
  have hx : ObjOk X.prog X.w H1 s1.heap dd (.xd fs) := I1.hok dd _ ea
  obtain ⟨mA, hns, hr⟩ := hx
  obtain ⟨od, ho, hl⟩ := lookIn_ns hns
  obtain ⟨u, hu, ru⟩ := RelO.some_of (v := v) (o := mA n) (by rw [← l]; exact hr n)
  have J : PySem.W.InstAt s1.heap a oe C (some od) := ⟨ha, hz.1, by unfold PySem.W.notCls; rw [hd] <;> rfl, by rw [hz.2]; exact ho⟩
  exact HandSPX.exc_get I1.kIn J T.ga T.gg T.exC (PySem.W.findObj_own T.hdC hno rfl (by rw [hl, hu])) (handed_of ru) ⟨v, H1, I1.tok _, ru, q⟩
/-- what the clauses 'except x as n' wish of an exception of the body, one after the other; slot i is n's -/
def wManyAs (K : PySem.W.Frag) (i : Nat) (Wout : WX) (D : Ends) : List (Value × (Addr → Value → Option Addr → TS)) → WX
  | [] => Wout
  | (c, ts) :: r => fun cls d σ H => ∃ b, PySem.W.exmOne K cls c = some b ∧ (b = true → ∀ a, H a = none → ts a cls d { nx := fun σ' H' => D.nx (σ'.set i none) H', rt := D.rt, bk := fun σ' H' => D.bk (σ'.set i none) H', ct := fun σ' H' => D.ct (σ'.set i none) H' } (σ.set i (some (.ref a))) H) ∧
    (b = false → wManyAs K i Wout D r cls d σ H)
inductive HdsAs (X : Cx) (n : Str) : List ExceptHandler → List (Value × (Addr → Value → Option Addr → TS)) → Prop
  | nil : HdsAs X n [] []
  | cons {x : Str} {c : Value} {ts : Addr → Value → Option Addr → TS} {b₀ : Stmt} {suite : List Stmt} {np pos' : Pos} {hds : List ExceptHandler} {l : List (Value × (Addr → Value → Option Addr → TS))} (hc : Names X x c)
      (hsu : ∀ (a : Addr) (oe : Obj) (cls : Value) (d : Option Addr) (pn : List (Addr × Obj)), Zc cls d oe → (∃ vs, oe.data = .fields vs) → PSs (X.suite a ((a, oe) :: pn)) (b₀ :: suite) (ts a cls d)) (r : HdsAs X n hds l) :
      HdsAs X n (.ExceptHandler (some (.Name x np)) (some n) (b₀ :: suite) pos' :: hds) ((c, ts) :: l)
section
variable {X : Cx} {n : Str} {i : Nat} {body : List Stmt} {h₀ : ExceptHandler} {hds : List ExceptHandler} {l : List (Value × (Addr → Value → Option Addr → TS))} {pos : Pos} {tb : WX → TS} {Wout : WX}
theorem ps_try_manyAs (hs : X.stack = X.env :: X.outer) (hf : X.env.frame = some X.env.locals) (hN : X.N.Nodup) (hi : X.N[i]? = some n) (hln : X.env.kindOf n = some .local) (tk : Takes X Wout)
    (hb : ∀ (W : WX) (pn : List (Addr × Obj)) (xe : Value → Shared → Prop), Takes (X.tr pn xe) W → PassesOwn (model X.prog X.w) X.A X.env xe → PSs (X.tr pn xe) body (tb W))
    (hh : HdsAs X n (h₀ :: hds) l) : PS X (.Try body (h₀ :: hds) [] [] pos) (fun D σ H => tb (wManyAs X.K i Wout D l) D σ H) := by
  refine ⟨fun pins s σ H D I h => ?_⟩
  have ok := I.ok
  have hfr : X.A.frames = some (X.env :: X.outer) := by rw [ok.frames, hs]
  have hloc : Loc X.env.scope n := .inl hln
  refine wpAny_Try_except ?_
  refine wpAny_mono ((hb (wManyAs X.K i Wout D l) (X.pn ++ pins) (fun e s₁ => wpAny (model X.prog X.w) X.A (noteFrame e X.env) (fun _ s₂ => wpAny (model X.prog X.w) X.A (setFlight e none) (fun _ s₃ =>
    wpAny (model X.prog X.w) X.A (handleBy e X.env (h₀ :: hds)) (SP X pins D) X.xe s₃) X.xe s₂) X.xe s₁) (fun u s' xx => ?_) PassesOwn.looking).run [] s σ H D (I.toTry _) h) (fun f s1 hsp => ?_) (fun e s1 he => he)
  · -- the catch
    obtain ⟨a, B, sI, pins', σ', H', cls, d, rfl, J', nb, up, sky, na, os, ag, w⟩ := xx
    have J : Inv X pins σ' H' sI := J'.ofTry ok
    have sky' : Sky B (X.env :: X.outer) a (Zc cls d) X.env.locals s'.heap := by rw [← hs]; exact sky
    show wpAny (model X.prog X.w) X.A (noteFrame (.ref a) X.env) _ _ _
    refine Sky.land Zc.steady hfr hf sky' fun h3 fl3 up3 => ?_
    have J3 : Inv X pins σ' H' { s' with heap := h3 } := J.landed nb fl3.1 (up.trans up3) os ag
    obtain ⟨oe3, vs3, he3, hz3, hd3⟩ := fl3.there
    have notFr : ∀ {h : Heap} {o : Obj} {vs : Array Value}, h.FunFrames B (X.env :: X.outer) → h.get? a = some o → o.data = .fields vs → a ∉ frs (X.env :: X.outer) := fun {h o vs} ff e dd hm => by
      obtain ⟨_, o', e', hnf⟩ := ff.mem hm
      rw [e] at e'; cases e'
      exact hnf _ dd
    have nfr := notFr fl3.2.2.1 he3 hd3
    have nL : a ≠ X.env.locals := fun z => nfr (List.mem_filterMap.mpr ⟨X.env, List.mem_cons_self, by rw [hf, z]⟩)
    have nF : a ∉ X.fs := fun hm => by
      obtain ⟨e, he, q⟩ := List.mem_filterMap.mp hm
      exact nfr (List.mem_filterMap.mpr ⟨e, List.mem_cons_of_mem _ he, q⟩)
    have S3 := J3.suite he3 hd3 na nL nF
    have go : ∀ {hds' : List ExceptHandler} {l' : List (Value × (Addr → Value → Option Addr → TS))}, HdsAs X n hds' l' → wManyAs X.K i Wout D l' cls d σ' H' →
        wpAny (model X.prog X.w) X.A (handleBy (.ref a) X.env hds') (SP X pins D) X.xe { s' with heap := h3 } := by
      intro hds' l' hk
      induction hk with
      | nil =>
        intro w
        refine wpAny_handleBy_nil ?_
        obtain ⟨k1, k2, k3, oe, vs, T, oT, ts', he, hz, hd, h1, hr⟩ := id fl3
        unfold PySem.passOn
        refine wpAny_bind (wpAny_field he hd h1 ?_)
        rw [if_neg (show ¬ ((Value.ref T == Value.none) = true) from by simp)]
        have fin : wpAny (model X.prog X.w) X.A (setFlight (.ref a) X.env.frame) (fun _ s4 => wpAny (model X.prog X.w) X.A (throw (.ref a) : Sem Flow) (SP X pins D) X.xe s4) X.xe { s' with heap := h3 } := by
          rw [hf]
          refine HandSPX.setFlight_upZ fl3 fun h4 hh4 up4 => wpAny_throw (tk _ _ ?_)
          exact ⟨a, B, sI, pins, σ', H', cls, d, rfl, J, nb, (up.trans up3).trans up4, .inr (.inr (by rw [hs]; exact hh4)), na, os, ag, w⟩
        first
          | exact wpAny_bind (wpAny_pure (wpAny_bind fin))
          | exact wpAny_bind fin
      | @cons x c ts b₀ suite np pos' hds2 l2 hc hsu r ih =>
        intro w
        obtain ⟨b, hb1, hyes, hno⟩ := w
        refine wpAny_handleBy_cons (codeAny_handlers_test ?_) (by intro q; cases q)
        have LT : PySem.W.Looks (model X.prog X.w) h3 (typeOf (.ref a)) cls := fun A Q E s k q => wpAny_typeOf_ref (k _ _ he3) (by rw [hz3.1]; exact q)
        have LM := PySem.W.exm_one (M := model X.prog X.w) (J3.kIn) LT hb1
        have test : ∀ {Q : Value → Shared → Prop} {E : Value → Shared → Prop}, Q c { s' with heap := h3 } → wpAny (model X.prog X.w) (X.A.mark (some (.ref a))) (eval (.Name x np) X.env) Q E { s' with heap := h3 } := fun {Q E} q => by
          obtain ⟨hg, hdbg, hm | ⟨hm, hv, hnn⟩⟩ := hc
          · exact ld_glob (X := X.suite a ((a, oe3) :: (X.pn ++ pins))) S3 hg hm q hdbg
          · exact ld_blt (X := X.suite a ((a, oe3) :: (X.pn ++ pins))) S3 hg hm hv q hnn hdbg
        refine test (LM.here ?_)
        cases b with
        | true =>
          refine codeAny_handlers_suite_as ?_
          refine HandSPX.lands_againZ fl3 fun h4 fl4 up4 => ?_
          have J4 : Inv X pins σ' H' { s' with heap := h4 } := J.landed nb fl4.1 ((up.trans up3).trans up4) os ag
          obtain ⟨oe4, vs4, he4, hz4, hd4⟩ := fl4.there
          have S4 := J4.suite he4 hd4 na nL nF
          refine store_ok (X := X.suite a ((a, oe4) :: (X.pn ++ pins))) (v := .ref a) S4 hN hi hloc rfl (fun s5 S5 => ?_) (.inr hln)
          refine wpAny_mono ((hsu a oe4 cls d (X.pn ++ pins) hz4 ⟨_, hd4⟩).run [] s5 _ H' _ S5 (hyes rfl a na)) (fun f s6 hsp => ?_) (fun _ _ z => False.elim z)
          have end_ : ∀ {σ6 : L2.St} {H6 : Hp} {Q : Shared → Prop}, Inv (X.suite a ((a, oe4) :: (X.pn ++ pins))) [] σ6 H6 s6 → (∀ s7, Inv X pins (σ6.set i none) H6 s7 → Q s7) →
              wpAny (model X.prog X.w) X.A (do bindName X.env n .none; unbindBehindTheSuite X.env n pos') (fun _ s7 => Q s7) X.xe s6 := fun {σ6 H6 Q} S6 hq => gone_ok (S6.unsuite ok) hN hi hln hq
          cases f with
          | next =>
            obtain ⟨σ6, H6, S6, q6⟩ := hsp
            exact end_ S6 fun s7 J7 => ⟨_, _, J7, q6⟩
          | brk =>
            obtain ⟨σ6, H6, S6, q6⟩ := hsp
            exact end_ S6 fun s7 J7 => ⟨_, _, J7, q6⟩
          | cont =>
            obtain ⟨σ6, H6, S6, q6⟩ := hsp
            exact end_ S6 fun s7 J7 => ⟨_, _, J7, q6⟩
          | ret u =>
            obtain ⟨v6, σ6, H6, S6, r6, q6⟩ := hsp
            exact end_ S6 fun s7 J7 => ⟨_, _, _, J7, r6, q6⟩
        | false =>
          show wpAny _ X.A (handleBy (.ref a) X.env hds2) _ _ _
          exact ih (hno rfl)
    exact go hh w
  · cases f with
    | next =>
      obtain ⟨σ', H', J', q⟩ := hsp
      exact wpAny_execs_nil ⟨σ', H', J'.ofTry ok, q⟩
    | brk =>
      obtain ⟨σ', H', J', q⟩ := hsp
      exact ⟨σ', H', J'.ofTry ok, q⟩
    | cont =>
      obtain ⟨σ', H', J', q⟩ := hsp
      exact ⟨σ', H', J'.ofTry ok, q⟩
    | ret u =>
      obtain ⟨v, σ', H', J', r, q⟩ := hsp
      exact ⟨v, σ', H', J'.ofTry ok, r, q⟩
end
end My

namespace My
open PySem PySem.Spec PyProof.Rows L2
/-! ### own errors as they stand behind the top: what is asked of the written part -/
abbrev ErW : Type := Option (Str × Str × Arguments × FuncBody × Scope × Addr × Addr)
def erI (K : PySem.W.Frag) (x : Str) : Addr := match PySem.W.findIn K (.ref (He.ga K x)) "__init__" with
  | some (some (.ref a)) => a
  | _ => 0
def erW (K : PySem.W.Frag) (x : Str) : ErW := match K.lookup (erI K x) with
  | some ⟨_, _, .func fd, _⟩ => some (fd.name, fd.qualname, fd.params, fd.body, fd.scope, fd.globals, fd.builtins)
  | _ => none
/-- an own error class over ValueError -/
def oexB (K : PySem.W.Frag) (C : Addr) : Bool := match K.lookup C with
  | some ⟨.type "type", _, .cls cd, sl⟩ => (match cd.mro, sl.toList with
    | .ref C' :: bm, [_, _, _, _, some (.builtin n), _] => C' == C && (n == ("ValueError.__new__" : String) && (!cd.hasDel && (cd.hasDict && PySem.HandSPX.refsVE bm)))
    | _, _ => false)
  | _ => false
theorem oexB_ok {K : PySem.W.Frag} {C : Addr} (q : oexB K C = true) : ∃ nm qn N bs bm sn sub ab col dd k0 k1 k2 k3 k5, K.lookup C = some (excClassObj nm qn C N bs bm true sn sub ab col dd k0 k1 k2 k3 k5 "ValueError.__new__") ∧ PySem.HandSPX.refsVE bm = true := by
  unfold oexB at q
  split at q
  · rename_i dd cd sl ho
    split at q
    · rename_i C' bm k0 k1 k2 k3 n k5 hm hs
      simp only [Bool.and_eq_true, beq_iff_eq, Bool.not_eq_true'] at q
      obtain ⟨rfl, rfl, hdel, hdict, ht⟩ := q
      obtain ⟨nm, bs, mro, ns, qn, hd, sn, sub, ab, col, del⟩ := cd
      dsimp only at hm hdel hdict
      subst hm hdel hdict
      have hsl : sl = #[k0, k1, k2, k3, some (.builtin "ValueError.__new__"), k5] := by
        obtain ⟨l⟩ := sl
        simp only at hs
        rw [hs]
      subst hsl
      exact ⟨nm, qn, ns, bs, bm, sn, sub, ab, col, dd, k0, k1, k2, k3, k5, ho, ht⟩
    · cases q
  · cases q
/-- its __init__: one cell, of the class; code of the file; one default, None -/
def iniB (K : PySem.W.Frag) (file x : Str) : Bool := match K.lookup (erI K x) with
  | some ⟨_, _, .func fd, _⟩ => (match fd.closure with
    | [(n, cc)] => decide (n = ("__class__" : Str)) && ((match K.lookup cc with
      | some ⟨_, _, .cell (some (.ref C')), _⟩ => C' == He.ga K x
      | _ => false) && ((match fd.code with
        | .ref c => (match K.lookup c with
          | some ⟨_, _, .fields vs, _⟩ => (match (vs[2]? : Option Value) with
            | some (Value.str f _) => decide (f = file)
            | _ => false)
          | _ => false)
        | _ => false) && (PySem.W.codeIn K fd.code (x ++ (".__init__" : Str)) && (He.dflB K fd.defaults [.non] && He.kwdB K fd.kwdefaults []))))
    | _ => false)
  | _ => false
def errB (K : PySem.W.Frag) (file x : Str) : Bool :=
  oexB K (He.ga K x) && (iniB K file x && (xfB K (He.ga K x) && (decide (PySem.W.findIn K (.ref (He.ga K x)) "__setattr__" = some (some (.builtin "object.__setattr__"))) && (decide (PySem.W.subIn K (.ref (He.ga K x)) (.type "BaseException") = some true) && (decide (PySem.W.typeIn K (.ref (He.ga K x)) = some (.type "type")) && (PySem.W.keepIn K (.ref (He.ga K x)) &&
  (decide (PySem.W.ks_superIn K (He.ga K x) (He.ga K x) "__init__" = some (some (.builtin "ValueError.__init__"))) && (decide (PySem.W.subIn K (.ref (He.ga K x)) (.type "ValueError") = some true) && (decide (PySem.W.mroIn K (He.ga K x) (.ref (He.ga K x)) = some true) && (decide (PySem.W.nsIn K cStatics "thirdparty.any" = some none) && (decide (PySem.W.findIn K (.ref (He.ga K x)) "value" = some none) &&
  (decide (PySem.W.findIn K (.ref (He.ga K x)) "__init__" = some (some (.ref (erI K x)))) && decide (PySem.W.typeIn K (.ref (erI K x)) = some (.type "function"))))))))))))))
structure ErrC (K : PySem.W.Frag) (file x : Str) (st : Stmt) (C fI : Addr) (fd : FuncData) : Prop where
  sup : Sup.SupC K file x st C fI fd
  ini : PySem.W.findIn K (.ref C) "__init__" = some (some (.ref fI))
  ity : PySem.W.typeIn K (.ref fI) = some (.type "function")
  bnd : Binds K fd ["self", "value"] []
  xf : XfC K C
theorem err_ok {K : PySem.W.Frag} {file x : Str} {st : Stmt} (h : errB K file x = true) (e : erW K x = some (("__init__" : Str), x ++ (".__init__" : Str), defArgs st, FuncBody.stmts (defBody st), defScope st, mainGlobals, builtinsNs))
    (hb : ∀ (T cc : Addr) (kV doc pm : Value) (an : Option Addr) (cdv ct : Value) (us its : List Value), us.length = 2 → its.length = 1 →
      ∃ k, bindArgs (PySem.W.ksFn "__init__" (x ++ (".__init__" : Str)) (defArgs st) (defBody st) (defScope st) (.ref T) kV doc pm an cdv ct cc) ⟨us, []⟩ = seqItems? (.ref T) >>= k ∧ k (some its.toArray) = pure ((["self", "value"] : List Str).zip us)) :
    ∃ fd, ErrC K file x st (He.ga K x) (erI K x) fd := by
  unfold errB at h
  obtain ⟨h1, h⟩ := He.ba h
  obtain ⟨h2, h⟩ := He.ba h
  obtain ⟨h3, h⟩ := He.ba h
  obtain ⟨h4, h⟩ := He.ba h
  obtain ⟨h5, h⟩ := He.ba h
  obtain ⟨h6, h⟩ := He.ba h
  obtain ⟨h7, h⟩ := He.ba h
  obtain ⟨h8, h⟩ := He.ba h
  obtain ⟨h9, h⟩ := He.ba h
  obtain ⟨h10, h⟩ := He.ba h
  obtain ⟨h11, h⟩ := He.ba h
  obtain ⟨h12, h⟩ := He.ba h
  obtain ⟨h13, h14⟩ := He.ba h
  unfold iniB at h2
  unfold erW at e
  cases q : K.lookup (erI K x) with
  | none => rw [q] at e; cases e
  | some o =>
    obtain ⟨oc, od, dt, osl⟩ := o
    rw [q] at e h2
    cases dt with
    | func fd =>
      obtain ⟨n1, n2, n3, n4, n5, n6, n7, n8, n9, n10, n11, n12, n13, n14, n15⟩ := fd
      have e2 : (some (n1, n2, n3, n4, n5, n6, n15) : ErW) = some (("__init__" : Str), x ++ (".__init__" : Str), defArgs st, FuncBody.stmts (defBody st), defScope st, mainGlobals, builtinsNs) := e
      simp only [Option.some.injEq, Prod.mk.injEq] at e2
      obtain ⟨r1, r2, r3, r4, r5, r6, r7⟩ := e2
      subst r1 r2 r3 r4 r5 r6 r7
      dsimp only at h2
      split at h2
      · rename_i n cc
        obtain ⟨k1, h2⟩ := He.ba h2
        obtain ⟨k2, h2⟩ := He.ba h2
        obtain ⟨k3, h2⟩ := He.ba h2
        obtain ⟨k4, h2⟩ := He.ba h2
        obtain ⟨k5, k6⟩ := He.ba h2
        obtain rfl := of_decide_eq_true k1
        split at k2
        · rename_i cl cld C' csl lcc
          obtain rfl := beq_iff_eq.mp k2
          split at k3
          · rename_i c0
            split at k3
            · rename_i ccl cdd vs ccs lc
              split at k3
              · rename_i f tf hvs
                obtain rfl := of_decide_eq_true k3
                have D := He.dflB_ok k5
                refine ⟨_, ⟨⟨⟨oexB_ok h1, of_decide_eq_true h4, of_decide_eq_true h5, of_decide_eq_true h6, h7⟩, ⟨oc, od, n8, n9, n10, n11, n12, _, cc, n14, osl, rfl, q, k4, ⟨ccl, cdd, vs, ccs, tf, lc, hvs⟩, cl, cld, csl, lcc⟩,
                  of_decide_eq_true h8, of_decide_eq_true h9, of_decide_eq_true h10, of_decide_eq_true h11, of_decide_eq_true h12⟩, of_decide_eq_true h13, of_decide_eq_true h14, ?_, xfB_ok h3⟩⟩
                rcases D with ⟨z, _⟩ | ⟨_, T, o, its, m, rfl, lT, oT, rT⟩
                · cases z
                · intro s us X hlen
                  rw [List.append_nil] at hlen ⊢
                  obtain ⟨k, e1, e2⟩ := hb T cc n9 n10 n11 n12 _ n14 us its hlen rT.length.symm
                  refine BindsTo.of_looks fun M => ?_
                  refine Eq.mpr (congrArg (fun z => PySem.W.Looks M s.heap z _) e1) ?_
                  exact looks_items X lT oT (.of_pure e2)
              · cases k3
            · cases k3
          · cases k3
        · cases k2
      · cases h2
    | _ => cases e
end My

namespace My
/-! ### rows without a mark: the mark is A ++ [z] -/
section
variable (A : List Bool) (z : Bool)
def stG : List Bool → List Bool → List Bool
  | t, [] => t
  | t, b :: r => if A <:+ t ++ [b] then stG (t ++ [b] ++ [!z]) r else stG (t ++ [b]) r
def stuff (bs : List Bool) : List Bool := stG A z [] bs
def baG : List Bool → List Bool → List Bool → Option (List Bool)
  | t, o, [] => if A <:+ t then none else some o
  | t, o, b :: r => if A <:+ t then (if b = !z then baG (t ++ [b]) o r else none) else baG (t ++ [b]) (o ++ [b]) r
def bareO (w : List Bool) : Option (List Bool) := baG A z [] [] w
/-- behind each A stands the other bit -/
def Clean (w : List Bool) : Prop := ∀ i, A <:+ w.take i → w[i]? = some (!z)
/-- it can be kept out -/
def Keep : Prop := A ≠ [] ∧ A ≠ List.replicate A.length (!z)
end
variable {A : List Bool} {z : Bool}
theorem stG_cons (t : List Bool) (b : Bool) (r : List Bool) : stG A z t (b :: r) = if A <:+ t ++ [b] then stG A z (t ++ [b] ++ [!z]) r else stG A z (t ++ [b]) r := rfl
theorem stG_app (t x y : List Bool) : stG A z t (x ++ y) = stG A z (stG A z t x) y := by
  induction x generalizing t with
  | nil => rfl
  | cons b r ih =>
    rw [List.cons_append, stG_cons, stG_cons]
    split
    · exact ih _
    · exact ih _
theorem stG_pre (t x : List Bool) : t <+: stG A z t x := by
  induction x generalizing t with
  | nil => exact List.prefix_refl t
  | cons b r ih =>
    unfold stG
    split
    · exact (by rw [List.append_assoc]; exact List.prefix_append t _ : t <+: t ++ [b] ++ [!z]).trans (ih _)
    · exact (List.prefix_append t _).trans (ih _)
theorem stG_next (t x : List Bool) (b : Bool) : t ++ [b] <+: stG A z t (b :: x) := by
  unfold stG
  split
  · exact (List.prefix_append (t ++ [b]) _).trans (stG_pre _ _)
  · exact stG_pre _ _
theorem all_same {c : Bool} : ∀ {A : List Bool} {x : Bool}, A ++ [c] = x :: A → A = List.replicate A.length c
  | [], _, _ => rfl
  | y :: r, x, h => by
    rw [List.cons_append] at h
    injection h with h1 h2
    have ih := all_same h2
    rw [List.length_cons, List.replicate_succ']
    have e : y :: r = r ++ [c] := h2.symm
    rw [e, ← ih]
theorem suffix_same {t : List Bool} {c : Bool} (h1 : A <:+ t) (h2 : A <:+ t ++ [c]) : A = List.replicate A.length c := by
  obtain ⟨u, rfl⟩ := h1
  obtain ⟨v, hv⟩ := h2
  have hl : v.length = u.length + 1 := by
    have := congrArg List.length hv
    simp at this
    omega
  rcases u.eq_nil_or_concat with rfl | ⟨u', y, rfl⟩
  · rcases v with _ | ⟨x, _ | ⟨x2, v⟩⟩
    · simp at hl
    · exact all_same (x := x) (by simpa using hv.symm)
    · simp at hl
  · rw [List.concat_eq_append] at *
    have e : v ++ A = (u' ++ [y]) ++ (A ++ [c]) := by rw [hv]; simp
    have e2 := congrArg (List.drop (u' ++ [y]).length) e
    rw [List.drop_left, List.drop_append_of_le_length (by omega)] at e2
    have hl2 : (v.drop (u' ++ [y]).length).length = 1 := by rw [List.length_drop, hl]; simp
    cases e3 : v.drop (u' ++ [y]).length with
    | nil => rw [e3] at hl2; cases hl2
    | cons x r =>
      rw [e3] at hl2 e2
      have hr : r = [] := List.eq_nil_of_length_eq_zero (by simpa using hl2)
      subst hr
      exact all_same (x := x) e2.symm
theorem clean_ends {w : List Bool} (h : Clean A z w) : ¬ A <:+ w := fun e => by
  have := h w.length (by rw [List.take_length]; exact e)
  rw [List.getElem?_eq_none (Nat.le_refl _)] at this
  cases this
theorem clean_more {t : List Bool} {b : Bool} (h : Clean A z t) (n : ¬ A <:+ t ++ [b]) : Clean A z (t ++ [b]) := fun i e => by
  by_cases hi : i ≤ t.length
  · rw [List.take_append_of_le_length hi] at e
    have := h i e
    have hlt := (List.getElem?_eq_some_iff.mp this).1
    rw [List.getElem?_append_left hlt]
    exact this
  · rw [List.take_of_length_le (by rw [List.length_append, List.length_singleton]; omega)] at e
    exact absurd e n
theorem clean_stuffed {t : List Bool} {b : Bool} (k : Keep A z) (h : Clean A z t) (s : A <:+ t ++ [b]) : Clean A z (t ++ [b] ++ [!z]) := fun i e => by
  by_cases hi : i ≤ t.length
  · rw [List.append_assoc, List.take_append_of_le_length hi] at e
    have := h i e
    have hlt := (List.getElem?_eq_some_iff.mp this).1
    rw [List.append_assoc, List.getElem?_append_left hlt]
    exact this
  · by_cases hi2 : i = t.length + 1
    · subst hi2
      rw [List.getElem?_append_right (by simp)]
      simp
    · rw [List.take_of_length_le (by simp; omega)] at e
      exact absurd (suffix_same s e) k.2
theorem stG_clean (k : Keep A z) {t : List Bool} (h : Clean A z t) (x : List Bool) : Clean A z (stG A z t x) := by
  induction x generalizing t with
  | nil => exact h
  | cons b r ih =>
    unfold stG
    split
    · exact ih (clean_stuffed k h (by assumption))
    · exact ih (clean_more h (by assumption))
theorem clean_nil (k : Keep A z) : Clean A z [] := fun i e => by
  rw [List.take_nil, List.suffix_nil] at e
  exact absurd e k.1
theorem stuff_clean (k : Keep A z) (x : List Bool) : Clean A z (stuff A z x) := stG_clean k (clean_nil k) x
theorem baG_st (k : Keep A z) {t : List Bool} (h : Clean A z t) (o x : List Bool) : ∃ rest, stG A z t x = t ++ rest ∧ baG A z t o rest = some (o ++ x) := by
  induction x generalizing t o with
  | nil => exact ⟨[], by unfold stG; simp, by unfold baG; rw [if_neg (clean_ends h)]; simp⟩
  | cons b r ih =>
    by_cases s : A <:+ t ++ [b]
    · obtain ⟨rest, h1, h2⟩ := ih (clean_stuffed k h s) (o ++ [b])
      refine ⟨b :: (!z) :: rest, ?_, ?_⟩
      · unfold stG
        rw [if_pos s, h1]
        simp
      · unfold baG
        rw [if_neg (clean_ends h)]
        unfold baG
        rw [if_pos s, if_pos rfl, h2]
        simp
    · obtain ⟨rest, h1, h2⟩ := ih (clean_more h s) (o ++ [b])
      refine ⟨b :: rest, ?_, ?_⟩
      · unfold stG
        rw [if_neg s, h1]
        simp
      · unfold baG
        rw [if_neg (clean_ends h), h2]
        simp
theorem bare_stuff (k : Keep A z) (x : List Bool) : bareO A z (stuff A z x) = some x := by
  obtain ⟨rest, h1, h2⟩ := baG_st k (clean_nil k) [] x
  unfold stuff bareO
  rw [h1]
  exact h2
theorem stuff_inj (k : Keep A z) {x y : List Bool} (h : stuff A z x = stuff A z y) : x = y := by
  have h1 := bare_stuff k x
  rw [h, bare_stuff k y] at h1
  exact (Option.some.inj h1).symm
theorem stuff_snoc (x : List Bool) (b : Bool) : stuff A z (x ++ [b]) = if A <:+ stuff A z x ++ [b] then stuff A z x ++ [b] ++ [!z] else stuff A z x ++ [b] := by
  unfold stuff
  rw [stG_app]
  rfl
theorem baG_some (k : Keep A z) {t o x : List Bool} : ∀ {w : List Bool}, ((¬ A <:+ t ∧ stuff A z o = t) ∨ (A <:+ t ∧ stuff A z o = t ++ [!z])) → baG A z t o w = some x → stuff A z x = t ++ w := by
  intro w
  induction w generalizing t o with
  | nil =>
    intro J h
    unfold baG at h
    split at h
    · cases h
    · rename_i n
      cases h
      rcases J with ⟨_, e⟩ | ⟨s, _⟩
      · rw [e]; simp
      · exact absurd s n
  | cons b r ih =>
    intro J h
    unfold baG at h
    split at h
    · rename_i s
      split at h
      · rename_i e
        subst e
        rcases J with ⟨n, _⟩ | ⟨_, e⟩
        · exact absurd s n
        · have := ih (t := t ++ [!z]) (o := o) (.inl ⟨by rw [← e]; exact clean_ends (stuff_clean k o), e⟩) h
          rw [this]
          simp
      · cases h
    · rename_i n
      rcases J with ⟨_, e⟩ | ⟨s, _⟩
      · have e2 := stuff_snoc (A := A) (z := z) o b
        rw [e] at e2
        have := ih (t := t ++ [b]) (o := o ++ [b]) (by
          by_cases s : A <:+ t ++ [b]
          · rw [if_pos s] at e2
            exact .inr ⟨s, e2⟩
          · rw [if_neg s] at e2
            exact .inl ⟨s, e2⟩) h
        rw [this]
        simp
      · exact absurd s n
theorem bare_some (k : Keep A z) {w x : List Bool} (h : bareO A z w = some x) : stuff A z x = w := by
  have := baG_some k (t := []) (o := []) (w := w) (.inl ⟨fun e => k.1 (List.suffix_nil.mp e), rfl⟩) h
  simpa using this
theorem baG_clean {w : List Bool} (h : Clean A z w) : ∀ (r t o : List Bool), w = t ++ r → ∃ x, baG A z t o r = some x
  | [], t, o, e => by
    rw [List.append_nil] at e
    subst e
    unfold baG
    rw [if_neg (clean_ends h)]
    exact ⟨_, rfl⟩
  | b :: r, t, o, e => by
    unfold baG
    by_cases s : A <:+ t
    · rw [if_pos s]
      have h1 := h t.length (by rw [e, List.take_left]; exact s)
      rw [e, List.getElem?_append_right (Nat.le_refl _), Nat.sub_self] at h1
      have hb : b = !z := Option.some.inj h1
      rw [if_pos hb]
      exact baG_clean h r _ _ (by rw [e]; simp)
    · rw [if_neg s]
      exact baG_clean h r _ _ (by rw [e]; simp)
theorem bare_clean {w : List Bool} (h : Clean A z w) : ∃ x, bareO A z w = some x := baG_clean h w [] [] rfl
theorem bare_iff (k : Keep A z) {w : List Bool} : (∃ x, bareO A z w = some x) ↔ Clean A z w := ⟨fun ⟨x, h⟩ => by rw [← bare_some k h]; exact stuff_clean k x, bare_clean⟩
theorem clean_iff (w : List Bool) : Clean A z w ↔ ¬ A ++ [z] <:+: w ∧ ¬ A <:+ w := by
  constructor
  · intro h
    refine ⟨fun ⟨u, v, e⟩ => ?_, clean_ends h⟩
    have h1 := h (u.length + A.length) (by
      rw [← e, show u ++ (A ++ [z]) ++ v = (u ++ A) ++ ([z] ++ v) by simp, show u.length + A.length = (u ++ A).length by simp, List.take_left]
      exact List.suffix_append u A)
    rw [← e, show u ++ (A ++ [z]) ++ v = (u ++ A) ++ ([z] ++ v) by simp, List.getElem?_append_right (by simp)] at h1
    simp at h1
  · rintro ⟨h1, h2⟩ i e
    by_cases hi : i < w.length
    · rw [List.getElem?_eq_getElem hi]
      congr 1
      by_cases hz : w[i] = z
      · exfalso
        obtain ⟨u, hu⟩ := e
        refine h1 ⟨u, w.drop (i + 1), ?_⟩
        have : w = w.take i ++ ([w[i]] ++ w.drop (i + 1)) := by
          conv => lhs; rw [← List.take_append_drop i w, List.drop_eq_getElem_cons hi]
          rfl
        conv => rhs; rw [this, ← hu, hz]
        simp
      · cases hw : w[i] <;> cases z <;> simp_all
    · rw [List.take_of_length_le (by omega)] at e
      exact absurd e h2
theorem stG_len (t x : List Bool) : t.length + x.length ≤ (stG A z t x).length ∧ (stG A z t x).length ≤ t.length + 2 * x.length := by
  induction x generalizing t with
  | nil => simp [stG]
  | cons b r ih =>
    unfold stG
    split
    · have := ih (t ++ [b] ++ [!z])
      simp at this ⊢
      omega
    · have := ih (t ++ [b])
      simp at this ⊢
      omega
theorem stuff_len (x : List Bool) : x.length ≤ (stuff A z x).length ∧ (stuff A z x).length ≤ 2 * x.length := by
  have := stG_len (A := A) (z := z) [] x
  simpa [stuff] using this
/-- the last bits, as many as A has -/
def lastK (A t : List Bool) : List Bool := t.drop (t.length - A.length)
theorem lastK_iff (A t : List Bool) : lastK A t = A ↔ A <:+ t := by
  unfold lastK
  rw [List.suffix_iff_eq_drop]
  exact ⟨fun h => h.symm, fun h => h.symm⟩
theorem lastK_snoc (A t : List Bool) (b : Bool) : (lastK A t ++ [b]).drop ((lastK A t ++ [b]).length - A.length) = lastK A (t ++ [b]) := by
  unfold lastK
  have e : (t ++ [b]).drop ((t ++ [b]).length - A.length) = ((t ++ [b]).drop (t.length - A.length)).drop ((t ++ [b]).length - A.length - (t.length - A.length)) := by
    rw [List.drop_drop]
    congr 1
    rw [List.length_append]
    omega
  rw [e, List.drop_append_of_le_length (l₁ := t) (by omega)]
  congr 1
  rw [List.length_append, List.length_append, List.length_drop]
  omega
end My

namespace My
/-! ### how rows without a mark grow: states -/
/-- the longest beginning of m at the end of w, at most n -/
def lbG (m w : List Bool) : Nat → Nat
  | 0 => 0
  | n + 1 => if w.drop (w.length - (n + 1)) = m.take (n + 1) then n + 1 else lbG m w n
def lb (m w : List Bool) : Nat := lbG m w w.length
theorem take_suf {m w : List Bool} {n : Nat} (h1 : n ≤ m.length) : m.take n <:+ w ↔ n ≤ w.length ∧ w.drop (w.length - n) = m.take n := by
  constructor
  · intro h
    have hl := h.length_le
    rw [List.length_take, Nat.min_eq_left h1] at hl
    refine ⟨hl, ?_⟩
    have := List.suffix_iff_eq_drop.mp h
    rw [List.length_take, Nat.min_eq_left h1] at this
    exact this.symm
  · rintro ⟨_, e⟩
    rw [← e]
    exact List.drop_suffix _ _
theorem lbG_spec (m w : List Bool) : ∀ k, k ≤ w.length → lbG m w k ≤ k ∧ lbG m w k ≤ m.length ∧ m.take (lbG m w k) <:+ w ∧ ∀ n, n ≤ k → n ≤ m.length → m.take n <:+ w → n ≤ lbG m w k
  | 0, _ => ⟨Nat.le_refl _, Nat.zero_le _, by rw [lbG, List.take_zero]; exact List.nil_suffix, fun n h _ _ => h⟩
  | k + 1, hk => by
    obtain ⟨i1, i2, i3, i4⟩ := lbG_spec m w k (by omega)
    unfold lbG
    split
    · rename_i h
      have hm : k + 1 ≤ m.length := by
        have := congrArg List.length h
        rw [List.length_drop, List.length_take] at this
        omega
      exact ⟨Nat.le_refl _, hm, (take_suf hm).mpr ⟨hk, h⟩, fun n h _ _ => h⟩
    · rename_i h
      refine ⟨by omega, i2, i3, fun n h1 h2 h3 => ?_⟩
      by_cases e : n = k + 1
      · subst e
        exact absurd ((take_suf h2).mp h3).2 h
      · exact i4 n (by omega) h2 h3
theorem lb_le (m w : List Bool) : lb m w ≤ w.length := (lbG_spec m w _ (Nat.le_refl _)).1
theorem lb_lem (m w : List Bool) : lb m w ≤ m.length := (lbG_spec m w _ (Nat.le_refl _)).2.1
theorem lb_suf (m w : List Bool) : m.take (lb m w) <:+ w := (lbG_spec m w _ (Nat.le_refl _)).2.2.1
theorem lb_max {m w : List Bool} {n : Nat} (h1 : n ≤ m.length) (h2 : m.take n <:+ w) : n ≤ lb m w := (lbG_spec m w _ (Nat.le_refl _)).2.2.2 n ((take_suf h1).mp h2).1 h1 h2
theorem lb_same {m w v : List Bool} (h : ∀ n, n ≤ m.length → (m.take n <:+ w ↔ m.take n <:+ v)) : lb m w = lb m v :=
  Nat.le_antisymm (lb_max (lb_lem _ _) ((h _ (lb_lem _ _)).mp (lb_suf _ _))) (lb_max (lb_lem _ _) ((h _ (lb_lem _ _)).mpr (lb_suf _ _)))
theorem snoc_suf {u w : List Bool} {a b : Bool} : u ++ [a] <:+ w ++ [b] ↔ u <:+ w ∧ a = b := by
  constructor
  · rintro ⟨t, e⟩
    rw [← List.append_assoc] at e
    obtain ⟨e1, e2⟩ := List.append_inj' e rfl
    exact ⟨⟨t, e1⟩, by cases e2; rfl⟩
  · rintro ⟨⟨t, e⟩, rfl⟩
    exact ⟨t, by rw [← e, List.append_assoc]⟩
theorem lb_step (m w : List Bool) (b : Bool) : lb m (w ++ [b]) = lb m (m.take (lb m w) ++ [b]) := by
  refine lb_same fun n hn => ?_
  cases n with
  | zero => simp
  | succ k =>
    have hk : k < m.length := by omega
    have e : m.take (k + 1) = m.take k ++ [m[k]] := by rw [List.take_add_one, List.getElem?_eq_getElem hk]; rfl
    rw [e, snoc_suf, snoc_suf]
    have : m.take k <:+ w ↔ m.take k <:+ m.take (lb m w) := by
      constructor
      · intro h
        have hle := lb_max (by omega) h
        refine List.suffix_of_suffix_length_le h (lb_suf m w) ?_
        rw [List.length_take, List.length_take]
        omega
      · exact fun h => h.trans (lb_suf m w)
    rw [this]
section
variable (A : List Bool) (z : Bool)
/-- the state behind what is put in -/
def beh : Nat := lb (A ++ [z]) (A ++ [!z])
/-- the state behind a bit, and whether one is put in -/
def stepS (s : Nat) (b : Bool) : Nat × Nat := if lb (A ++ [z]) ((A ++ [z]).take s ++ [b]) = A.length then (beh A z, 1) else (lb (A ++ [z]) ((A ++ [z]).take s ++ [b]), 0)
/-- the state behind a row -/
def stA (x : List Bool) : Nat := lb (A ++ [z]) (stuff A z x)
def grA (x : List Bool) : Nat := (stuff A z x).length - x.length
end
variable {A : List Bool} {z : Bool}
theorem lb_A {w : List Bool} (c : ¬ A ++ [z] <:+ w) : lb (A ++ [z]) w ≤ A.length ∧ (lb (A ++ [z]) w = A.length ↔ A <:+ w) := by
  have h1 := lb_lem (A ++ [z]) w
  rw [List.length_append, List.length_singleton] at h1
  have h2 : lb (A ++ [z]) w ≠ A.length + 1 := fun e => c (by
    have := lb_suf (A ++ [z]) w
    rw [e, List.take_of_length_le (by rw [List.length_append]; exact Nat.le_refl _)] at this
    exact this)
  have hA : (A ++ [z]).take A.length = A := List.take_left
  refine ⟨by omega, fun e => ?_, fun h => ?_⟩
  · have := lb_suf (A ++ [z]) w
    rw [e, hA] at this
    exact this
  · have := lb_max (m := A ++ [z]) (n := A.length) (by rw [List.length_append]; omega) (by rw [hA]; exact h)
    omega
theorem gr_len (x : List Bool) : (stuff A z x).length = x.length + grA A z x := by
  have := (stuff_len (A := A) (z := z) x).1
  unfold grA
  omega
theorem st_lt (k : Keep A z) (x : List Bool) : stA A z x < A.length := by
  have hc := stuff_clean k x
  have he := clean_ends hc
  have hm : ¬ A ++ [z] <:+ stuff A z x := fun h => ((clean_iff _).mp hc).1 h.isInfix
  obtain ⟨h1, h2⟩ := lb_A hm
  unfold stA
  have : lb (A ++ [z]) (stuff A z x) ≠ A.length := fun e => he (h2.mp e)
  omega
theorem st_step (k : Keep A z) (x : List Bool) (b : Bool) : stA A z (x ++ [b]) = (stepS A z (stA A z x) b).1 ∧ grA A z (x ++ [b]) = grA A z x + (stepS A z (stA A z x) b).2 := by
  have hc := stuff_clean k x
  have he := clean_ends hc
  have e1 : lb (A ++ [z]) (stuff A z x ++ [b]) = lb (A ++ [z]) ((A ++ [z]).take (stA A z x) ++ [b]) := lb_step _ _ _
  have hm : ¬ A ++ [z] <:+ stuff A z x ++ [b] := fun h => he (snoc_suf.mp h).1
  obtain ⟨h1, h2⟩ := lb_A hm
  have hs := stuff_snoc (A := A) (z := z) x b
  have hl := gr_len (A := A) (z := z) x
  unfold stepS
  rw [← e1]
  by_cases c : A <:+ stuff A z x ++ [b]
  · rw [if_pos (h2.mpr c)]
    rw [if_pos c] at hs
    refine ⟨?_, ?_⟩
    · unfold stA beh
      rw [hs, lb_step, h2.mpr c, List.take_left]
    · unfold grA
      rw [hs, List.length_append, List.length_append, List.length_append, List.length_singleton, List.length_singleton]
      show _ = _ + 1
      omega
  · rw [if_neg fun e => c (h2.mp e)]
    rw [if_neg c] at hs
    refine ⟨?_, ?_⟩
    · unfold stA
      rw [hs]
    · unfold grA
      rw [hs, List.length_append, List.length_append, List.length_singleton]
      show _ = _ + 0
      omega
theorem st_nil : stA A z [] = 0 := by
  have := lb_le (A ++ [z]) (stuff A z [])
  unfold stA
  have e : stuff A z [] = [] := rfl
  rw [e] at this ⊢
  simpa using this
theorem gr_nil : grA A z [] = 0 := rfl
theorem beh_lt (k : Keep A z) : beh A z < A.length := by
  have hm : ¬ A ++ [z] <:+ A ++ [!z] := fun h => by
    have := (snoc_suf.mp h).2
    cases z <;> cases this
  obtain ⟨h1, h2⟩ := lb_A hm
  unfold beh
  have : lb (A ++ [z]) (A ++ [!z]) ≠ A.length := fun e => k.2 (suffix_same (List.suffix_refl A) (h2.mp e))
  omega
theorem step_up (s : Nat) (b : Bool) : lb (A ++ [z]) ((A ++ [z]).take s ++ [b]) ≤ s + 1 := by
  have := lb_le (A ++ [z]) ((A ++ [z]).take s ++ [b])
  rw [List.length_append, List.length_take, List.length_singleton] at this
  omega
/-- the room that growth takes -/
theorem gr_roomN (k : Keep A z) : ∀ (n : Nat) (x : List Bool), x.length = n → (grA A z x = 0 ∧ stA A z x ≤ x.length) ∨ ∃ g, grA A z x = g + 1 ∧ stA A z x + A.length + g * (A.length - beh A z) ≤ x.length + beh A z ∧ A.length + g * (A.length - beh A z) ≤ x.length := by
  intro n
  induction n with
  | zero =>
    intro x hx
    rw [List.length_eq_zero_iff.mp hx]
    exact .inl ⟨gr_nil, by rw [st_nil]; exact Nat.zero_le _⟩
  | succ n ih =>
    intro x hx
    obtain ⟨r, b, rfl⟩ : ∃ r b, x = r ++ [b] := ⟨x.dropLast, x.getLast (by intro e; rw [e] at hx; cases hx), (List.dropLast_concat_getLast _).symm⟩
    rw [List.length_append, List.length_singleton] at hx
    obtain ⟨e1, e2⟩ := st_step k r b
    have hb := beh_lt k
    have ih := ih r (by omega)
    have hu := step_up (A := A) (z := z) (stA A z r) b
    rw [e1, e2, List.length_append, List.length_singleton]
    unfold stepS
    by_cases c : lb (A ++ [z]) ((A ++ [z]).take (stA A z r) ++ [b]) = A.length
    · rw [if_pos c]
      show (_ + 1 = 0 ∧ _) ∨ ∃ g, _ + 1 = g + 1 ∧ beh A z + A.length + g * _ ≤ _ ∧ _
      rcases ih with ⟨i1, i2⟩ | ⟨g, i1, i2, i3⟩
      · exact .inr ⟨0, by omega, by omega, by omega⟩
      · refine .inr ⟨g + 1, by omega, ?_, ?_⟩ <;> (rw [Nat.add_mul, Nat.one_mul]; omega)
    · rw [if_neg c]
      show (_ + 0 = 0 ∧ _) ∨ ∃ g, _ + 0 = g + 1 ∧ _ + A.length + g * _ ≤ _ ∧ _
      rcases ih with ⟨i1, i2⟩ | ⟨g, i1, i2, i3⟩
      · exact .inl ⟨by omega, by omega⟩
      · exact .inr ⟨g, by omega, by omega, by omega⟩
/-- at most so much -/
def mostG (A : List Bool) (z : Bool) (n : Nat) : Nat := if n < A.length then 0 else 1 + (n - A.length) / (A.length - beh A z)
theorem gr_most (k : Keep A z) (x : List Bool) : grA A z x ≤ mostG A z x.length := by
  have hb := beh_lt k
  unfold mostG
  rcases gr_roomN k x.length x rfl with ⟨h, _⟩ | ⟨g, h, _, h3⟩
  · rw [h]; exact Nat.zero_le _
  · rw [if_neg (by omega), h]
    have : g ≤ (x.length - A.length) / (A.length - beh A z) := (Nat.le_div_iff_mul_le (by omega)).mpr (by omega)
    omega
/-- growth never goes back -/
theorem gr_mono (k : Keep A z) (x : List Bool) : ∀ y : List Bool, grA A z x ≤ grA A z (x ++ y) := by
  intro y
  induction y generalizing x with
  | nil => rw [List.append_nil]; exact Nat.le_refl _
  | cons b r ih =>
    have h := ih (x ++ [b])
    rw [List.append_assoc] at h
    have := (st_step k x b).2
    exact Nat.le_trans (by omega) h
/-- the row that grows most -/
def mostR (A : List Bool) (z : Bool) (k : Nat) : List Bool := A ++ (List.replicate k (A.drop (beh A z))).flatten
theorem beh_suf (A : List Bool) (z : Bool) (h : beh A z < A.length) : A.take (beh A z) <:+ A ++ [!z] := by
  have := lb_suf (A ++ [z]) (A ++ [!z])
  rw [List.take_append_of_le_length (by unfold beh at h; omega)] at this
  exact this
theorem plain_grow (k : Keep A z) (x y : List Bool) (h : grA A z (x ++ y) = grA A z x) : stuff A z (x ++ y) = stuff A z x ++ y := by
  induction y generalizing x with
  | nil => simp
  | cons b r ih =>
    have e : x ++ b :: r = x ++ [b] ++ r := by simp
    rw [e] at h ⊢
    have m1 := gr_mono k (x ++ [b]) r
    have m2 := gr_mono k x [b]
    have h1 : grA A z (x ++ [b]) = grA A z x := by omega
    rw [ih (x ++ [b]) (by omega)]
    have hs := stuff_snoc (A := A) (z := z) x b
    have hl := gr_len (A := A) (z := z) x
    have hl2 := gr_len (A := A) (z := z) (x ++ [b])
    by_cases c : A <:+ stuff A z x ++ [b]
    · rw [if_pos c] at hs
      rw [hs, List.length_append, List.length_append, List.length_append, List.length_singleton, List.length_singleton] at hl2
      omega
    · rw [if_neg c] at hs
      rw [hs]
      simp
/-- feeding up to A's end puts one in -/
theorem feed (k : Keep A z) {x y : List Bool} (hy : y ≠ []) (h : grA A z (x ++ y.dropLast) = grA A z x) (hs : A <:+ stuff A z x ++ y) : stuff A z (x ++ y) = stuff A z x ++ y ++ [!z] ∧ grA A z (x ++ y) = grA A z x + 1 := by
  have e : y = y.dropLast ++ [y.getLast hy] := (List.dropLast_concat_getLast hy).symm
  have h1 := plain_grow k x y.dropLast h
  have h2 : x ++ y = x ++ y.dropLast ++ [y.getLast hy] := by rw [List.append_assoc, ← e]
  have h3 : stuff A z (x ++ y.dropLast) ++ [y.getLast hy] = stuff A z x ++ y := by rw [h1, List.append_assoc, ← e]
  have h4 := stuff_snoc (A := A) (z := z) (x ++ y.dropLast) (y.getLast hy)
  rw [h3, if_pos hs, ← h2] at h4
  refine ⟨h4, ?_⟩
  have l1 := gr_len (A := A) (z := z) (x ++ y)
  have l2 := gr_len (A := A) (z := z) x
  rw [h4, List.length_append, List.length_append, List.length_append, List.length_singleton] at l1
  omega
theorem mostR_len (A : List Bool) (z : Bool) (j : Nat) : (mostR A z j).length = A.length + j * (A.length - beh A z) := by
  unfold mostR
  rw [List.length_append]
  congr 1
  induction j with
  | zero => simp
  | succ j ih => rw [List.replicate_succ, List.flatten_cons, List.length_append, ih, List.length_drop, Nat.succ_mul]; omega
theorem mostR_succ (A : List Bool) (z : Bool) (j : Nat) : mostR A z (j + 1) = mostR A z j ++ A.drop (beh A z) := by
  unfold mostR
  rw [List.replicate_succ', List.flatten_append, List.append_assoc]
  simp
theorem mostG_at (k : Keep A z) {j r : Nat} (hr : r < A.length - beh A z) : mostG A z (A.length + j * (A.length - beh A z) + r) = 1 + j := by
  unfold mostG
  rw [if_neg (by omega), show A.length + j * (A.length - beh A z) + r - A.length = r + j * (A.length - beh A z) by omega, Nat.add_mul_div_right _ _ (by omega), Nat.div_eq_of_lt hr]
  omega
theorem mostR_grow (k : Keep A z) : ∀ j, A ++ [!z] <:+ stuff A z (mostR A z j) ∧ grA A z (mostR A z j) = j + 1 := by
  have hb := beh_lt k
  intro j
  induction j with
  | zero =>
    have e : mostR A z 0 = [] ++ A := by unfold mostR; simp
    have hd : grA A z ([] ++ A.dropLast) = grA A z [] := by
      have := gr_most k ([] ++ A.dropLast)
      rw [List.nil_append] at this ⊢
      unfold mostG at this
      rw [if_pos (by rw [List.length_dropLast]; have := k.1; have : A.length ≠ 0 := fun e => this (List.length_eq_zero_iff.mp e); omega)] at this
      rw [gr_nil]
      omega
    obtain ⟨f1, f2⟩ := feed k (x := []) (y := A) k.1 hd (List.suffix_append _ _)
    rw [e, f1, f2]
    exact ⟨by rw [List.append_assoc]; exact List.suffix_append _ _, by rw [gr_nil]⟩
  | succ j ih =>
    obtain ⟨i1, i2⟩ := ih
    rw [mostR_succ]
    have hy : A.drop (beh A z) ≠ [] := by
      intro e
      have := congrArg List.length e
      rw [List.length_drop, List.length_nil] at this
      omega
    have hyl : (A.drop (beh A z)).length = A.length - beh A z := List.length_drop
    have hd : grA A z (mostR A z j ++ (A.drop (beh A z)).dropLast) = grA A z (mostR A z j) := by
      have h1 := gr_mono k (mostR A z j) (A.drop (beh A z)).dropLast
      have h2 := gr_most k (mostR A z j ++ (A.drop (beh A z)).dropLast)
      rw [List.length_append, mostR_len, List.length_dropLast, hyl, mostG_at k (by omega)] at h2
      omega
    have hs : A <:+ stuff A z (mostR A z j) ++ A.drop (beh A z) := by
      have h1 : A.take (beh A z) <:+ stuff A z (mostR A z j) := (beh_suf A z hb).trans i1
      obtain ⟨u, eu⟩ := h1
      refine ⟨u, ?_⟩
      rw [← eu, List.append_assoc, List.take_append_drop]
    obtain ⟨f1, f2⟩ := feed k hy hd hs
    refine ⟨?_, by rw [f2, i2]⟩
    rw [f1]
    obtain ⟨u, eu⟩ := hs
    exact ⟨u, by rw [← List.append_assoc, eu]⟩
/-- cut to any length it grows most -/
theorem mostR_take (k : Keep A z) {n j : Nat} (h : n ≤ (mostR A z j).length) : grA A z ((mostR A z j).take n) = mostG A z n := by
  have hb := beh_lt k
  have hl : ((mostR A z j).take n).length = n := by rw [List.length_take]; omega
  have h1 := gr_most k ((mostR A z j).take n)
  rw [hl] at h1
  refine Nat.le_antisymm h1 ?_
  by_cases hn : n < A.length
  · unfold mostG
    rw [if_pos hn]
    exact Nat.zero_le _
  · have hD : 0 < A.length - beh A z := by omega
    have e := Nat.div_add_mod (n - A.length) (A.length - beh A z)
    have hm := Nat.mod_lt (n - A.length) hD
    generalize (n - A.length) / (A.length - beh A z) = q at *
    generalize (n - A.length) % (A.length - beh A z) = r at *
    have en : n = A.length + q * (A.length - beh A z) + r := by rw [Nat.mul_comm] at e; omega
    rw [en, mostG_at k hm, ← en]
    have hq : mostR A z q <+: (mostR A z j).take n := by
      have hqj : q ≤ j := by
        rw [mostR_len] at h
        exact Nat.le_of_mul_le_mul_right (c := A.length - beh A z) (by omega) hD
      have hp : mostR A z q <+: mostR A z j := by
        have : ∀ d, mostR A z q <+: mostR A z (q + d) := fun d => by
          induction d with
          | zero => exact List.prefix_refl _
          | succ d ih =>
            rw [← Nat.add_assoc, mostR_succ]
            exact ih.trans (List.prefix_append _ _)
        have := this (j - q)
        rw [show q + (j - q) = j by omega] at this
        exact this
      refine List.prefix_of_prefix_length_le hp (List.take_prefix _ _) ?_
      rw [hl, mostR_len]
      omega
    obtain ⟨u, eu⟩ := hq
    have := gr_mono k (mostR A z q) u
    rw [eu, (mostR_grow k q).2] at this
    omega
end My

namespace My
def GoodM (A : List Bool) (z : Bool) : Prop := 1 ≤ A.length ∧ A.length ≤ 15 ∧ Keep A z
/-! ### words -/
/-- all words of a length, as they are made -/
def wds : Nat → List (List Bool)
  | 0 => [[]]
  | n + 1 => (wds n).flatMap fun x => [x ++ [false], x ++ [true]]
theorem flat2_len (l : List (List Bool)) : (l.flatMap fun x => [x ++ [false], x ++ [true]]).length = 2 * l.length := by
  induction l with
  | nil => rfl
  | cons x r ih => rw [List.flatMap_cons, List.length_append, ih]; show 2 + _ = 2 * (r.length + 1); omega
theorem wds_len : ∀ n, (wds n).length = 2 ^ n
  | 0 => rfl
  | n + 1 => by
    have : ∀ l : List (List Bool), (l.flatMap fun x => [x ++ [false], x ++ [true]]).length = 2 * l.length := fun l => by
      induction l with
      | nil => rfl
      | cons x r ih => rw [List.flatMap_cons, List.length_append, ih]; show 2 + _ = 2 * (r.length + 1); omega
    rw [wds, this, wds_len n, Nat.pow_succ]
    omega
theorem wds_mem : ∀ (n : Nat) (x : List Bool), x ∈ wds n ↔ x.length = n
  | 0, x => by rw [wds, List.mem_singleton, List.length_eq_zero_iff]
  | n + 1, x => by
    rw [wds, List.mem_flatMap]
    constructor
    · rintro ⟨y, hy, hx⟩
      have := (wds_mem n y).mp hy
      rcases List.mem_cons.mp hx with rfl | hx
      · rw [List.length_append, this]; rfl
      · rw [List.mem_singleton.mp hx, List.length_append, this]; rfl
    · intro h
      have hne : x ≠ [] := by intro e; rw [e] at h; cases h
      refine ⟨x.dropLast, (wds_mem n _).mpr (by rw [List.length_dropLast]; omega), ?_⟩
      have e := (List.dropLast_concat_getLast hne)
      cases hb : x.getLast hne with
      | false => rw [hb] at e; exact List.mem_cons.mpr (.inl e.symm)
      | true => rw [hb] at e; exact List.mem_cons.mpr (.inr (List.mem_singleton.mpr e.symm))
end My

namespace My
/-! ### counts without noughts behind -/
def IsH (L : List Nat) (f : Nat → Nat) : Prop := (∀ k, L.getD k 0 = f k) ∧ ∀ h : L ≠ [], L.getLast h ≠ 0
theorem IsH.zero {L : List Nat} {f : Nat → Nat} (h : IsH L f) {k : Nat} (hk : L.length ≤ k) : f k = 0 := by
  rw [← h.1 k, List.getD_eq_getElem?_getD, List.getElem?_eq_none hk]
  rfl
theorem IsH.last {L : List Nat} {f : Nat → Nat} (h : IsH L f) (hn : 0 < L.length) : f (L.length - 1) ≠ 0 := by
  have hne : L ≠ [] := fun e => by rw [e] at hn; cases hn
  have := h.2 hne
  rw [← h.1, List.getD_eq_getElem?_getD, List.getElem?_eq_getElem (by omega)]
  rw [List.getLast_eq_getElem] at this
  exact this
theorem IsH.len_le {L M : List Nat} {f : Nat → Nat} (h : IsH L f) (k : IsH M f) : L.length ≤ M.length := by
  by_cases hn : 0 < L.length
  · by_cases hl : L.length ≤ M.length
    · exact hl
    · exact absurd (k.zero (k := L.length - 1) (by omega)) (h.last hn)
  · omega
theorem IsH.uniq {L M : List Nat} {f : Nat → Nat} (h : IsH L f) (k : IsH M f) : L = M := by
  have hl : L.length = M.length := Nat.le_antisymm (h.len_le k) (k.len_le h)
  refine List.ext_getElem hl fun i h1 h2 => ?_
  have e1 := h.1 i
  have e2 := k.1 i
  rw [List.getD_eq_getElem?_getD, List.getElem?_eq_getElem h1] at e1
  rw [List.getD_eq_getElem?_getD, List.getElem?_eq_getElem h2] at e2
  exact e1.trans e2.symm
theorem IsH.congr {L : List Nat} {f g : Nat → Nat} (h : IsH L f) (e : ∀ k, f k = g k) : IsH L g := ⟨fun k => (h.1 k).trans (e k), h.2⟩
theorem IsH.nil : IsH [] fun _ => 0 := ⟨fun k => by simp, fun h => absurd rfl h⟩
theorem IsH.nilI {L : List Nat} {f : Nat → Nat} (h : IsH L f) : L = [] ↔ ∀ k, f k = 0 := by
  constructor
  · intro e k
    exact h.zero (by rw [e]; exact Nat.zero_le _)
  · intro e
    exact h.uniq (IsH.nil.congr fun k => (e k).symm)
theorem isH_mk {L : List Nat} {f : Nat → Nat} (h1 : ∀ k, k < L.length → L.getD k 0 = f k) (h2 : ∀ k, L.length ≤ k → f k = 0) (h3 : 0 < L.length → f (L.length - 1) ≠ 0) : IsH L f := by
  refine ⟨fun k => ?_, fun hne => ?_⟩
  · by_cases hk : k < L.length
    · exact h1 k hk
    · rw [h2 k (by omega), List.getD_eq_getElem?_getD, List.getElem?_eq_none (by omega)]
      rfl
  · have hp : 0 < L.length := List.length_pos_iff.mpr hne
    have := h3 hp
    rw [← h1 _ (by omega), List.getD_eq_getElem?_getD, List.getElem?_eq_getElem (by omega)] at this
    rw [List.getLast_eq_getElem]
    exact this
theorem IsH.short {L : List Nat} {f : Nat → Nat} (h : IsH L f) {n : Nat} (hz : ∀ k, n ≤ k → f k = 0) : L.length ≤ n := by
  by_cases hp : L.length ≤ n
  · exact hp
  · exact absurd (hz (L.length - 1) (by omega)) (h.last (by omega))
/-- two lists summed -/
def sm (a b : List Nat) : List Nat := (List.range (max a.length b.length)).map fun i => a.getD i 0 + b.getD i 0
theorem sm_len (a b : List Nat) : (sm a b).length = max a.length b.length := by unfold sm; rw [List.length_map, List.length_range]
theorem IsH.sm {a b : List Nat} {f g : Nat → Nat} (h : IsH a f) (k : IsH b g) : IsH (sm a b) fun i => f i + g i := by
  refine isH_mk (fun i hi => ?_) (fun i hi => ?_) fun hp => ?_
  · rw [sm_len] at hi
    unfold My.sm
    rw [List.getD_eq_getElem?_getD, List.getElem?_map, List.getElem?_range hi]
    show a.getD i 0 + b.getD i 0 = _
    rw [h.1, k.1]
  · rw [sm_len] at hi
    rw [h.zero (k := i) (by omega), k.zero (k := i) (by omega)]
  · rw [sm_len] at hp ⊢
    by_cases hc : a.length ≤ b.length
    · rw [Nat.max_eq_right hc] at hp ⊢
      have := k.last hp
      omega
    · rw [Nat.max_eq_left (by omega)] at hp ⊢
      have := h.last hp
      omega
/-- one place on -/
def sh (e : Nat) (a : List Nat) : List Nat := if a = [] then [] else List.replicate e 0 ++ a
theorem IsH.sh {a : List Nat} {f : Nat → Nat} (h : IsH a f) (e : Nat) : IsH (sh e a) fun k => if e ≤ k then f (k - e) else 0 := by
  unfold My.sh
  by_cases hn : a = []
  · rw [if_pos hn]
    refine IsH.nil.congr fun k => ?_
    have := (h.nilI.mp hn) (k - e)
    split <;> simp [this]
  · rw [if_neg hn]
    have hl : 0 < a.length := List.length_pos_iff.mpr hn
    refine isH_mk (fun i hi => ?_) (fun i hi => ?_) fun hp => ?_
    · rw [List.length_append, List.length_replicate] at hi
      rw [List.getD_eq_getElem?_getD]
      by_cases hc : e ≤ i
      · rw [if_pos hc, List.getElem?_append_right (by rw [List.length_replicate]; exact hc), List.length_replicate, ← h.1, List.getD_eq_getElem?_getD]
      · rw [if_neg hc, List.getElem?_append_left (by rw [List.length_replicate]; omega), List.getElem?_replicate, if_pos (by omega)]
        rfl
    · rw [List.length_append, List.length_replicate] at hi
      rw [if_pos (by omega)]
      exact h.zero (by omega)
    · rw [List.length_append, List.length_replicate]
      have := h.last hl
      rw [if_pos (by omega), show e + a.length - 1 - e = a.length - 1 by omega]
      exact this
/-- one more at a place -/
def bm (a : List Nat) (g : Nat) : List Nat := (a ++ List.replicate (g + 1 - a.length) 0).set g ((a ++ List.replicate (g + 1 - a.length) 0).getD g 0 + 1)
theorem pad_get (a : List Nat) (n i : Nat) : (a ++ List.replicate n 0).getD i 0 = a.getD i 0 := by
  rw [List.getD_eq_getElem?_getD, List.getD_eq_getElem?_getD]
  by_cases h : i < a.length
  · rw [List.getElem?_append_left h]
  · rw [List.getElem?_append_right (by omega), List.getElem?_eq_none (l := a) (by omega), List.getElem?_replicate]
    split <;> rfl
theorem bm_len (a : List Nat) (g : Nat) : (bm a g).length = max a.length (g + 1) := by unfold bm; rw [List.length_set, List.length_append, List.length_replicate]; omega
theorem IsH.bm {a : List Nat} {f : Nat → Nat} (h : IsH a f) (g : Nat) : IsH (bm a g) fun k => f k + if k = g then 1 else 0 := by
  have key : ∀ i, i < max a.length (g + 1) → (My.bm a g).getD i 0 = f i + if i = g then 1 else 0 := fun i hi => by
    unfold My.bm
    rw [List.getD_eq_getElem?_getD, List.getElem?_set]
    by_cases hg : g = i
    · subst hg
      rw [if_pos rfl, if_pos (by rw [List.length_append, List.length_replicate]; omega), if_pos rfl, pad_get, h.1]
      rfl
    · rw [if_neg hg, if_neg (fun e => hg e.symm), ← List.getD_eq_getElem?_getD, pad_get, h.1]
      rfl
  refine isH_mk (fun i hi => key i (by rw [bm_len] at hi; exact hi)) (fun i hi => ?_) fun hp => ?_
  · rw [bm_len] at hi
    rw [h.zero (k := i) (by omega), if_neg (by omega)]
  · rw [bm_len] at hp ⊢
    by_cases hc : a.length ≤ g + 1
    · rw [Nat.max_eq_right hc, Nat.add_sub_cancel, if_pos rfl]
      omega
    · rw [Nat.max_eq_left (by omega)]
      have := h.last (by omega)
      omega
/-! ### words by state and growth -/
section
variable (A : List Bool) (z : Bool)
def prs (t : Nat) : List (Nat × Nat) := (wds t).map fun x => (stA A z x, grA A z x)
/-- where a pair goes by a bit -/
def goB (b : Bool) (p : Nat × Nat) : Nat × Nat := ((stepS A z p.1 b).1, p.2 + (stepS A z p.1 b).2)
end
variable {A : List Bool} {z : Bool}
theorem prs_succ (k : Keep A z) (t : Nat) : prs A z (t + 1) = (prs A z t).flatMap fun p => [goB A z false p, goB A z true p] := by
  unfold prs
  rw [wds, List.map_flatMap, List.flatMap_map]
  congr 1
  funext x
  obtain ⟨a1, a2⟩ := st_step k x false
  obtain ⟨b1, b2⟩ := st_step k x true
  show [(stA A z (x ++ [false]), grA A z (x ++ [false])), (stA A z (x ++ [true]), grA A z (x ++ [true]))] = _
  rw [a1, a2, b1, b2]
  rfl
theorem prs_lt (k : Keep A z) (t : Nat) : ∀ p ∈ prs A z t, p.1 < A.length := fun p hp => by
  obtain ⟨x, _, rfl⟩ := List.mem_map.mp hp
  exact st_lt k x
/-- how many have a state and a growth -/
def cS (P : List (Nat × Nat)) (i k : Nat) : Nat := P.countP fun p => decide (p.1 = i ∧ p.2 = k)
/-- of those with states below n: how many go by the bit to s and k -/
def cB (A : List Bool) (z : Bool) (b : Bool) (P : List (Nat × Nat)) (n s k : Nat) : Nat := P.countP fun p => decide (p.1 < n ∧ (goB A z b p).1 = s ∧ (goB A z b p).2 = k)
theorem cB_zero (b : Bool) (P : List (Nat × Nat)) (s k : Nat) : cB A z b P 0 s k = 0 := by
  unfold cB
  rw [List.countP_eq_zero]
  intro p _ h
  exact absurd (of_decide_eq_true h).1 (Nat.not_lt_zero _)
theorem countP_add {α : Type} (p q r : α → Bool) (h : ∀ x, (p x).toNat = (q x).toNat + (r x).toNat) : ∀ l : List α, l.countP p = l.countP q + l.countP r
  | [] => rfl
  | x :: l => by
    rw [List.countP_cons, List.countP_cons, List.countP_cons, countP_add p q r h l]
    have := h x
    cases hp : p x <;> cases hq : q x <;> cases hr : r x <;> simp [hp, hq, hr] at this ⊢ <;> omega
theorem cB_succ (b : Bool) (P : List (Nat × Nat)) (n s k : Nat) :
    cB A z b P (n + 1) s k = cB A z b P n s k + if (stepS A z n b).1 = s then (if (stepS A z n b).2 ≤ k then cS P n (k - (stepS A z n b).2) else 0) else 0 := by
  have e : (if (stepS A z n b).1 = s then (if (stepS A z n b).2 ≤ k then cS P n (k - (stepS A z n b).2) else 0) else 0) = P.countP fun p => decide (p.1 = n ∧ (goB A z b p).1 = s ∧ (goB A z b p).2 = k) := by
    by_cases h1 : (stepS A z n b).1 = s
    · rw [if_pos h1]
      by_cases h2 : (stepS A z n b).2 ≤ k
      · rw [if_pos h2]
        unfold cS
        congr 1
        funext p
        congr 1
        apply propext
        unfold goB
        constructor
        · rintro ⟨rfl, h⟩
          exact ⟨rfl, h1, by show _ + _ = _; omega⟩
        · rintro ⟨rfl, _, h⟩
          have h' : p.2 + (stepS A z p.1 b).2 = k := h
          exact ⟨rfl, by omega⟩
      · rw [if_neg h2]
        symm
        rw [List.countP_eq_zero]
        intro p _ h
        obtain ⟨rfl, _, h'⟩ := of_decide_eq_true h
        have h'' : p.2 + (stepS A z p.1 b).2 = k := h'
        omega
    · rw [if_neg h1]
      symm
      rw [List.countP_eq_zero]
      intro p _ h
      obtain ⟨rfl, h', _⟩ := of_decide_eq_true h
      exact h1 h'
  rw [e]
  unfold cB
  refine countP_add _ _ _ (fun p => ?_) P
  by_cases a : p.1 < n
  · have c1 : p.1 < n + 1 := by omega
    have c2 : p.1 ≠ n := by omega
    simp [a, c1, c2]
  · by_cases c : p.1 = n
    · subst c
      simp
    · have c1 : ¬ p.1 < n + 1 := by omega
      simp [a, c, c1]
theorem cS_succ (k : Keep A z) (t s g : Nat) : cS (prs A z (t + 1)) s g = cB A z false (prs A z t) A.length s g + cB A z true (prs A z t) A.length s g := by
  rw [prs_succ k]
  have hp := prs_lt k t
  unfold cS cB
  generalize prs A z t = P at *
  induction P with
  | nil => rfl
  | cons p r ih =>
    rw [List.flatMap_cons, List.countP_append, List.countP_cons, List.countP_cons (l := r), List.countP_cons (l := r), ih fun q hq => hp q (List.mem_cons_of_mem _ hq), List.countP_singleton]
    have := hp p List.mem_cons_self
    simp only [this, true_and]
    omega
/-- all of them -/
theorem cS_all (P : List (Nat × Nat)) (k : Nat) : ∀ n, P.countP (fun p => decide (p.1 < n + 1 ∧ p.2 = k)) = P.countP (fun p => decide (p.1 < n ∧ p.2 = k)) + cS P n k := fun n => by
  unfold cS
  refine countP_add _ _ _ (fun p => ?_) P
  by_cases a : p.1 < n
  · have c1 : p.1 < n + 1 := by omega
    have c2 : p.1 ≠ n := by omega
    simp [a, c1, c2]
  · by_cases c : p.1 = n
    · subst c
      simp
    · have c1 : ¬ p.1 < n + 1 := by omega
      simp [a, c, c1]
/-- how many rows of a length grow by k -/
def gC (A : List Bool) (z : Bool) (t k : Nat) : Nat := (wds t).countP fun x => decide (grA A z x = k)
theorem gC_all (k : Keep A z) (t g : Nat) : (prs A z t).countP (fun p => decide (p.1 < A.length ∧ p.2 = g)) = gC A z t g := by
  unfold gC
  rw [show (prs A z t).countP (fun p => decide (p.1 < A.length ∧ p.2 = g)) = (wds t).countP ((fun p => decide (p.1 < A.length ∧ p.2 = g)) ∘ fun x => (stA A z x, grA A z x)) from List.countP_map]
  congr 1
  funext x
  have := st_lt k x
  simp [this]
end My

namespace My
/-! ### growth summed over all rows of a length -/
def wS (P : List (Nat × Nat)) (f : Nat × Nat → Nat) : Nat := (P.map f).sum
theorem wS_add {P : List (Nat × Nat)} {f g h : Nat × Nat → Nat} (e : ∀ p, f p = g p + h p) : wS P f = wS P g + wS P h := by
  unfold wS
  induction P with
  | nil => rfl
  | cons p r ih => rw [List.map_cons, List.map_cons, List.map_cons, List.sum_cons, List.sum_cons, List.sum_cons, ih, e p]; omega
theorem wS_congr {P : List (Nat × Nat)} {f g : Nat × Nat → Nat} (e : ∀ p ∈ P, f p = g p) : wS P f = wS P g := by
  unfold wS
  rw [List.map_congr_left e]
theorem wS_zero (P : List (Nat × Nat)) : wS P (fun _ => 0) = 0 := by
  unfold wS
  induction P with
  | nil => rfl
  | cons p r ih => rw [List.map_cons, List.sum_cons, ih]
theorem wS_mul (P : List (Nat × Nat)) (c : Nat) (f : Nat × Nat → Nat) : wS P (fun p => c * f p) = c * wS P f := by
  unfold wS
  induction P with
  | nil => simp
  | cons p r ih => rw [List.map_cons, List.map_cons, List.sum_cons, List.sum_cons, ih, Nat.mul_add]
section
variable (A : List Bool) (z : Bool)
def cN (P : List (Nat × Nat)) (s : Nat) : Nat := wS P fun p => if p.1 = s then 1 else 0
def sN (P : List (Nat × Nat)) (s : Nat) : Nat := wS P fun p => if p.1 = s then p.2 else 0
def cNb (b : Bool) (P : List (Nat × Nat)) (n s : Nat) : Nat := wS P fun p => if p.1 < n ∧ (stepS A z p.1 b).1 = s then 1 else 0
def sNb (b : Bool) (P : List (Nat × Nat)) (n s : Nat) : Nat := wS P fun p => if p.1 < n ∧ (stepS A z p.1 b).1 = s then p.2 + (stepS A z p.1 b).2 else 0
end
variable {A : List Bool} {z : Bool}
theorem cNb_zero (b : Bool) (P : List (Nat × Nat)) (s : Nat) : cNb A z b P 0 s = 0 := by
  unfold cNb
  rw [wS_congr (g := fun _ => 0) fun p _ => if_neg fun h => Nat.not_lt_zero _ h.1, wS_zero]
theorem sNb_zero (b : Bool) (P : List (Nat × Nat)) (s : Nat) : sNb A z b P 0 s = 0 := by
  unfold sNb
  rw [wS_congr (g := fun _ => 0) fun p _ => if_neg fun h => Nat.not_lt_zero _ h.1, wS_zero]
theorem cNb_succ (b : Bool) (P : List (Nat × Nat)) (n s : Nat) : cNb A z b P (n + 1) s = cNb A z b P n s + if (stepS A z n b).1 = s then cN P n else 0 := by
  unfold cNb cN
  by_cases h : (stepS A z n b).1 = s
  · rw [if_pos h]
    refine wS_add fun p => ?_
    by_cases c : p.1 = n
    · rw [c, if_pos ⟨by omega, h⟩, if_neg (by omega), if_pos rfl]
    · rw [if_neg c]
      by_cases d : p.1 < n ∧ (stepS A z p.1 b).1 = s
      · rw [if_pos d, if_pos ⟨by omega, d.2⟩]
      · rw [if_neg d, if_neg fun x => d ⟨by omega, x.2⟩]
  · rw [if_neg h, Nat.add_zero]
    refine wS_congr fun p _ => ?_
    by_cases d : p.1 < n ∧ (stepS A z p.1 b).1 = s
    · rw [if_pos d, if_pos ⟨by omega, d.2⟩]
    · rw [if_neg d, if_neg]
      rintro ⟨x1, x2⟩
      by_cases c : p.1 = n
      · rw [c] at x2; exact h x2
      · exact d ⟨by omega, x2⟩
theorem sNb_succ (b : Bool) (P : List (Nat × Nat)) (n s : Nat) : sNb A z b P (n + 1) s = sNb A z b P n s + if (stepS A z n b).1 = s then sN P n + (stepS A z n b).2 * cN P n else 0 := by
  unfold sNb sN cN
  by_cases h : (stepS A z n b).1 = s
  · rw [if_pos h, ← wS_mul, ← wS_add (P := P) (f := fun p => (if p.1 = n then p.2 else 0) + (stepS A z n b).2 * (if p.1 = n then 1 else 0)) fun p => rfl]
    refine wS_add fun p => ?_
    by_cases c : p.1 = n
    · rw [c, if_pos ⟨by omega, h⟩, if_neg (by omega), if_pos rfl, if_pos rfl]
      omega
    · rw [if_neg c, if_neg c]
      by_cases d : p.1 < n ∧ (stepS A z p.1 b).1 = s
      · rw [if_pos d, if_pos ⟨by omega, d.2⟩]
        omega
      · rw [if_neg d, if_neg fun x => d ⟨by omega, x.2⟩]
        omega
  · rw [if_neg h, Nat.add_zero]
    refine wS_congr fun p _ => ?_
    by_cases d : p.1 < n ∧ (stepS A z p.1 b).1 = s
    · rw [if_pos d, if_pos ⟨by omega, d.2⟩]
    · rw [if_neg d, if_neg]
      rintro ⟨x1, x2⟩
      by_cases c : p.1 = n
      · rw [c] at x2; exact h x2
      · exact d ⟨by omega, x2⟩
theorem wS_flat (P : List (Nat × Nat)) (g h : Nat × Nat → Nat × Nat) (f : Nat × Nat → Nat) : wS (P.flatMap fun p => [g p, h p]) f = wS P (fun p => f (g p)) + wS P (fun p => f (h p)) := by
  unfold wS
  induction P with
  | nil => rfl
  | cons p r ih =>
    simp only [List.flatMap_cons, List.map_append, List.sum_append, List.map_cons, List.sum_cons, List.map_nil, List.sum_nil] at ih ⊢
    omega
theorem cN_succ (k : Keep A z) (t s : Nat) : cN (prs A z (t + 1)) s = cNb A z false (prs A z t) A.length s + cNb A z true (prs A z t) A.length s := by
  have hp := prs_lt k t
  rw [prs_succ k]
  unfold cN cNb
  rw [wS_flat]
  congr 1
  · refine wS_congr fun p h => ?_
    have h1 := hp p h
    by_cases c : (stepS A z p.1 false).1 = s
    · exact (if_pos c).trans (if_pos ⟨h1, c⟩).symm
    · exact (if_neg c).trans (if_neg fun x => c x.2).symm
  · refine wS_congr fun p h => ?_
    have h1 := hp p h
    by_cases c : (stepS A z p.1 true).1 = s
    · exact (if_pos c).trans (if_pos ⟨h1, c⟩).symm
    · exact (if_neg c).trans (if_neg fun x => c x.2).symm
theorem sN_succ (k : Keep A z) (t s : Nat) : sN (prs A z (t + 1)) s = sNb A z false (prs A z t) A.length s + sNb A z true (prs A z t) A.length s := by
  have hp := prs_lt k t
  rw [prs_succ k]
  unfold sN sNb
  rw [wS_flat]
  congr 1
  · refine wS_congr fun p h => ?_
    have h1 := hp p h
    by_cases c : (stepS A z p.1 false).1 = s
    · exact (if_pos c).trans (if_pos ⟨h1, c⟩).symm
    · exact (if_neg c).trans (if_neg fun x => c x.2).symm
  · refine wS_congr fun p h => ?_
    have h1 := hp p h
    by_cases c : (stepS A z p.1 true).1 = s
    · exact (if_pos c).trans (if_pos ⟨h1, c⟩).symm
    · exact (if_neg c).trans (if_neg fun x => c x.2).symm
/-- all growth of all rows of a length -/
def sG (A : List Bool) (z : Bool) (t : Nat) : Nat := ((wds t).map (grA A z)).sum
theorem sN_below (P : List (Nat × Nat)) : ∀ n, ((List.range n).map (sN P)).sum = wS P fun p => if p.1 < n then p.2 else 0
  | 0 => by rw [wS_congr (g := fun _ => 0) fun p _ => if_neg (Nat.not_lt_zero _), wS_zero]; rfl
  | n + 1 => by
    rw [List.range_succ, List.map_append, List.sum_append, sN_below P n]
    symm
    show _ = _ + (sN P n + 0)
    rw [Nat.add_zero]
    unfold sN
    refine wS_add fun p => ?_
    by_cases c : p.1 = n
    · rw [if_pos (by omega), if_neg (by omega), if_pos c]
      omega
    · by_cases d : p.1 < n
      · rw [if_pos (by omega), if_pos d, if_neg c]; rfl
      · rw [if_neg (by omega), if_neg d, if_neg c]
theorem sG_all (k : Keep A z) (t : Nat) : ((List.range A.length).map (sN (prs A z t))).sum = sG A z t := by
  have hp := prs_lt k t
  rw [sN_below, wS_congr (g := fun p => p.2) fun p h => if_pos (hp p h)]
  unfold wS sG prs
  rw [List.map_map]
  rfl
end My

namespace My
/-! ### the mark with all bits turned -/
def cm (A : List Bool) : List Bool := A.map (!·)
theorem cm_app (a b : List Bool) : cm (a ++ b) = cm a ++ cm b := List.map_append
theorem cm_len (a : List Bool) : (cm a).length = a.length := List.length_map _
theorem cm_cm (a : List Bool) : cm (cm a) = a := by
  unfold cm
  rw [List.map_map]
  conv => rhs; rw [← List.map_id a]
  congr 1
  funext b
  cases b <;> rfl
theorem cm_suf {a w : List Bool} : cm a <:+ cm w ↔ a <:+ w := by
  have go : ∀ {a w : List Bool}, a <:+ w → cm a <:+ cm w := fun {a w} ⟨t, e⟩ => ⟨cm t, by rw [← cm_app, e]⟩
  refine ⟨fun h => ?_, go⟩
  have := go h
  rw [cm_cm, cm_cm] at this
  exact this
theorem stG_cm (A : List Bool) (z : Bool) (t x : List Bool) : stG (cm A) (!z) (cm t) (cm x) = cm (stG A z t x) := by
  induction x generalizing t with
  | nil => rfl
  | cons b r ih =>
    show stG (cm A) (!z) (cm t) ((!b) :: cm r) = _
    rw [stG_cons, stG_cons]
    have e : cm t ++ [!b] = cm (t ++ [b]) := (cm_app t [b]).symm
    rw [e]
    by_cases h : A <:+ t ++ [b]
    · rw [if_pos h, if_pos (cm_suf.mpr h), ← ih]
      congr 1
      rw [cm_app (t ++ [b]) [!z]]
      rfl
    · rw [if_neg h, if_neg fun k => h (cm_suf.mp k), ← ih]
theorem gr_cm (A : List Bool) (z : Bool) (x : List Bool) : grA (cm A) (!z) (cm x) = grA A z x := by
  unfold grA stuff
  have := stG_cm A z [] x
  rw [show cm [] = [] from rfl] at this
  rw [this, cm_len, cm_len]
theorem keep_cm {A : List Bool} {z : Bool} (k : Keep A z) : Keep (cm A) (!z) := by
  refine ⟨fun e => k.1 ?_, fun e => k.2 ?_⟩
  · have := congrArg cm e
    rw [cm_cm] at this
    exact this
  · have := congrArg cm e
    rw [cm_cm, cm_len] at this
    rw [this]
    unfold cm
    rw [List.map_replicate, List.length_replicate]
    simp
/-- sums over all words of a length -/
def sumW (t : Nat) (f : List Bool → Nat) : Nat := ((wds t).map f).sum
theorem sumW_succ (t : Nat) (f : List Bool → Nat) : sumW (t + 1) f = sumW t fun x => f (x ++ [false]) + f (x ++ [true]) := by
  unfold sumW
  rw [wds]
  generalize wds t = l
  induction l with
  | nil => rfl
  | cons x r ih =>
    simp only [List.flatMap_cons, List.map_append, List.sum_append, List.map_cons, List.sum_cons, List.map_nil, List.sum_nil] at ih ⊢
    omega
theorem sumW_cm : ∀ (t : Nat) (f : List Bool → Nat), sumW t (fun x => f (cm x)) = sumW t f
  | 0, f => rfl
  | t + 1, f => by
    rw [sumW_succ, sumW_succ]
    have h := sumW_cm t fun x => f (x ++ [true]) + f (x ++ [false])
    have e : (fun x => f (cm (x ++ [false])) + f (cm (x ++ [true]))) = fun x => f (cm x ++ [true]) + f (cm x ++ [false]) := by
      funext x
      rw [cm_app, cm_app]
      rfl
    rw [e, h]
    congr 1
    funext x
    exact Nat.add_comm _ _
theorem countP_sum {α : Type} (p : α → Bool) : ∀ l : List α, l.countP p = (l.map fun x => if p x = true then 1 else 0).sum
  | [] => rfl
  | x :: l => by
    rw [List.countP_cons, countP_sum p l, List.map_cons, List.sum_cons]
    omega
theorem gC_cm (A : List Bool) (z : Bool) (t k : Nat) : gC (cm A) (!z) t k = gC A z t k := by
  unfold gC
  rw [countP_sum, countP_sum]
  have h := sumW_cm t fun x => if decide (grA (cm A) (!z) x = k) = true then 1 else 0
  unfold sumW at h
  rw [← h]
  congr 2
  funext x
  rw [gr_cm]
theorem sG_cm (A : List Bool) (z : Bool) (t : Nat) : sG (cm A) (!z) t = sG A z t := by
  have h := sumW_cm t (grA (cm A) (!z))
  unfold sumW at h
  unfold sG
  rw [← h]
  congr 2
  funext x
  exact gr_cm A z x
/-- the last of those that fit -/
theorem filter_last {p : Nat → Bool} {n b : Nat} (hb : b < n) (h1 : p b = true) (h2 : ∀ i, b < i → i < n → p i = false) : ∃ pre, (List.range n).filter p = pre ++ [b] := by
  refine ⟨(List.range b).filter p, ?_⟩
  have e : List.range n = List.range (b + 1) ++ (List.range (n - (b + 1))).map (b + 1 + ·) := by
    rw [← List.range_add]
    congr 1
    omega
  have e2 : ((List.range (n - (b + 1))).map (b + 1 + ·)).filter p = [] := by
    rw [List.filter_eq_nil_iff]
    intro i hi
    obtain ⟨j, hj, rfl⟩ := List.mem_map.mp hi
    have := List.mem_range.mp hj
    rw [h2 _ (by omega) (by omega)]
    decide
  rw [e, List.filter_append, e2, List.append_nil, List.range_succ, List.filter_append, List.filter_cons, if_pos h1, List.filter_nil]
theorem over_last (A : List Bool) (z : Bool) : ∃ pre, (List.range (A.length + 1)).filter (fun w => decide ((A ++ [z]).take w <:+ A ++ [!z])) = pre ++ [beh A z] := by
  have hm : ¬ A ++ [z] <:+ A ++ [!z] := fun h => by
    have := (snoc_suf.mp h).2
    cases z <;> cases this
  obtain ⟨h1, _⟩ := lb_A hm
  refine filter_last (by unfold beh; omega) (decide_eq_true (lb_suf _ _)) fun i hi hn => decide_eq_false fun h => ?_
  have := lb_max (m := A ++ [z]) (n := i) (by rw [List.length_append, List.length_singleton]; omega) h
  unfold beh at hi
  omega
end My

namespace My
/-! ### what the counts of all rows of a length tell -/
theorem mostR_long (A : List Bool) (z : Bool) (k : Keep A z) (n : Nat) : n ≤ (mostR A z n).length := by
  have hb := beh_lt k
  rw [mostR_len]
  have : n * 1 ≤ n * (A.length - beh A z) := Nat.mul_le_mul_left n (by omega)
  omega
theorem gC_most {A : List Bool} {z : Bool} (k : Keep A z) (n : Nat) : gC A z n (mostG A z n) ≠ 0 := by
  unfold gC
  have hx : (mostR A z n).take n ∈ wds n := (wds_mem n _).mpr (by rw [List.length_take]; have := mostR_long A z k n; omega)
  have := (List.countP_pos_iff (p := fun x => decide (grA A z x = mostG A z n))).mpr ⟨_, hx, decide_eq_true (mostR_take k (mostR_long A z k n))⟩
  omega
theorem gC_over {A : List Bool} {z : Bool} (k : Keep A z) {n g : Nat} (h : mostG A z n < g) : gC A z n g = 0 := by
  unfold gC
  rw [List.countP_eq_zero]
  intro x hx e
  have := gr_most k x
  rw [(wds_mem n x).mp hx] at this
  have := of_decide_eq_true e
  omega
theorem counts_len {A : List Bool} {z : Bool} (k : Keep A z) {n : Nat} {L : List Nat} (h : IsH L (gC A z n)) : L.length = mostG A z n + 1 := by
  refine Nat.le_antisymm (h.short fun g hg => gC_over k (by omega)) ?_
  by_cases hl : mostG A z n < L.length
  · exact hl
  · exact absurd (h.zero (k := mostG A z n) (by omega)) (gC_most k n)
/-- a list's items by their places -/
def places (L : List Nat) : List Nat := (List.range L.length).map fun i => i * L.getD i 0
/-- sums by counts -/
theorem sum_counts (f : List Bool → Nat) (m : Nat) : ∀ l : List (List Bool), (∀ x ∈ l, f x < m) →
    l.length = ((List.range m).map fun g => l.countP fun x => decide (f x = g)).sum ∧ (l.map f).sum = ((List.range m).map fun g => g * l.countP fun x => decide (f x = g)).sum
  | [], _ => by
    have e : ∀ r : List Nat, (r.map fun _ => 0).sum = 0 := fun r => by
      induction r with
      | nil => rfl
      | cons a r ih => rw [List.map_cons, List.sum_cons, ih]
    constructor
    · exact (e _).symm
    · exact (e _).symm
  | x :: l, h => by
    obtain ⟨i1, i2⟩ := sum_counts f m l fun y hy => h y (List.mem_cons_of_mem _ hy)
    have hx := h x List.mem_cons_self
    have one : ∀ (m : Nat), f x < m → ((List.range m).map fun g => if f x = g then 1 else 0).sum = 1 ∧ ((List.range m).map fun g => g * if f x = g then 1 else 0).sum = f x := fun m => by
      induction m with
      | zero => intro h; exact absurd h (Nat.not_lt_zero _)
      | succ m ih =>
        intro hm
        rw [List.range_succ, List.map_append, List.map_append, List.sum_append, List.sum_append]
        by_cases c : f x = m
        · have z1 : ∀ r : List Nat, (∀ g ∈ r, g < m) → (r.map fun g => if f x = g then 1 else 0).sum = 0 ∧ (r.map fun g => g * if f x = g then 1 else 0).sum = 0 := fun r => by
            induction r with
            | nil => intro _; exact ⟨rfl, rfl⟩
            | cons a r ih2 =>
              intro hr
              obtain ⟨q1, q2⟩ := ih2 fun g hg => hr g (List.mem_cons_of_mem _ hg)
              have ha := hr a List.mem_cons_self
              rw [List.map_cons, List.map_cons, List.sum_cons, List.sum_cons, q1, q2, if_neg (by omega)]
              exact ⟨rfl, by omega⟩
          obtain ⟨q1, q2⟩ := z1 (List.range m) fun g hg => List.mem_range.mp hg
          rw [q1, q2]
          show 0 + ((if f x = m then 1 else 0) + 0) = 1 ∧ 0 + (m * (if f x = m then 1 else 0) + 0) = f x
          rw [if_pos c]
          exact ⟨rfl, by omega⟩
        · obtain ⟨q1, q2⟩ := ih (by omega)
          rw [q1, q2]
          show 1 + ((if f x = m then 1 else 0) + 0) = 1 ∧ f x + (m * (if f x = m then 1 else 0) + 0) = f x
          rw [if_neg c]
          exact ⟨rfl, by omega⟩
    obtain ⟨o1, o2⟩ := one m hx
    have add : ∀ (r : List Nat) (a b : Nat → Nat), (r.map fun g => a g + b g).sum = (r.map a).sum + (r.map b).sum := fun r a b => by
      induction r with
      | nil => rfl
      | cons g r ih => rw [List.map_cons, List.map_cons, List.map_cons, List.sum_cons, List.sum_cons, List.sum_cons, ih]; omega
    have ec : ∀ g, (x :: l).countP (fun x => decide (f x = g)) = l.countP (fun x => decide (f x = g)) + if f x = g then 1 else 0 := fun g => by
      rw [List.countP_cons]
      congr 1
      by_cases c : f x = g
      · rw [decide_eq_true c, if_pos rfl, if_pos c]
      · rw [decide_eq_false c, if_neg (by decide), if_neg c]
    constructor
    · rw [List.length_cons, i1, show (fun g => (x :: l).countP fun x => decide (f x = g)) = fun g => l.countP (fun x => decide (f x = g)) + if f x = g then 1 else 0 from funext ec, add, o1]
    · rw [List.map_cons, List.sum_cons, i2, show (fun g => g * (x :: l).countP fun x => decide (f x = g)) = fun g => g * l.countP (fun x => decide (f x = g)) + g * (if f x = g then 1 else 0) from funext fun g => by rw [ec, Nat.mul_add], add, o2]
      omega
theorem counts_sums {A : List Bool} {z : Bool} (k : Keep A z) {n : Nat} {L : List Nat} (h : IsH L (gC A z n)) : L.sum = 2 ^ n ∧ (places L).sum = sG A z n := by
  have hl := counts_len k h
  obtain ⟨e1, e2⟩ := sum_counts (grA A z) L.length (wds n) fun x hx => by
    have := gr_most k x
    rw [(wds_mem n x).mp hx] at this
    omega
  have eL : L = (List.range L.length).map fun g => gC A z n g := by
    refine List.ext_getElem (by rw [List.length_map, List.length_range]) fun i h1 h2 => ?_
    rw [List.getElem_map, List.getElem_range, ← h.1 i, List.getD_eq_getElem?_getD, List.getElem?_eq_getElem h1]
    rfl
  constructor
  · rw [← wds_len n, e1]
    exact congrArg List.sum eL
  · unfold sG places
    rw [e2]
    congr 1
    refine List.map_congr_left fun g _ => ?_
    rw [h.1 g]
    rfl
end My

namespace My
/-! ### growths: what the law asks of great numbers, of two marks, and of three known ones -/
theorem mostG_more {A : List Bool} {z : Bool} (k : Keep A z) {n : Nat} (h : A.length ≤ n) (t : Nat) : mostG A z (n + t * (A.length - beh A z)) = mostG A z n + t := by
  have hb := beh_lt k
  have hD : 0 < A.length - beh A z := by omega
  unfold mostG
  rw [if_neg (by omega), if_neg (by omega), show n + t * (A.length - beh A z) - A.length = (n - A.length) + t * (A.length - beh A z) by omega, Nat.add_mul_div_right _ _ hD]
  omega
theorem mostG_one {A : List Bool} {z : Bool} (k : Keep A z) : mostG A z A.length = 1 := by
  unfold mostG
  rw [if_neg (by omega), Nat.sub_self, Nat.zero_div]
theorem mostG_nil {A : List Bool} {z : Bool} {n : Nat} (h : n < A.length) : mostG A z n = 0 := by
  unfold mostG
  rw [if_pos h]
theorem filter_head {α : Type} (p : α → Bool) : ∀ l : List α, (l.filter p).head? = l.find? p
  | [] => rfl
  | x :: r => by
    rw [List.filter_cons, List.find?_cons]
    cases h : p x with
    | true => rw [if_pos rfl]; rfl
    | false => rw [if_neg (by decide)]; exact filter_head p r
theorem first_range {p : Nat → Bool} {n : Nat} : (∃ m, ((List.range n).filter p).head? = some m ∧ m < n ∧ p m = true ∧ ∀ j, j < m → p j = false) ∨ ((List.range n).filter p = [] ∧ ∀ j, j < n → p j = false) := by
  rw [filter_head]
  cases h : (List.range n).find? p with
  | some m =>
    refine .inl ⟨m, rfl, ?_⟩
    rw [List.find?_range_eq_some] at h
    exact ⟨List.mem_range.mp h.2.1, h.1, fun j hj => by simpa using h.2.2 j hj⟩
  | none =>
    refine .inr ⟨?_, ?_⟩
    · rw [List.find?_eq_none] at h
      rw [List.filter_eq_nil_iff]
      exact h
    · intro j hj
      have := List.find?_eq_none.mp h j (List.mem_range.mpr hj)
      simpa using this
end My

namespace My
open PySem PySem.Spec PyProof.Rows L2
theorem nil_binds {K : PySem.W.Frag} {fd : FuncData} {ps : List Str} (h : ∃ ds, Vals [] ds ∧ Binds K fd ps ds) : Binds K fd ps [] := by
  obtain ⟨ds, v, b⟩ := h
  cases v
  exact b
def top (i : Nat) : Stmt := PySem.Challenge.pw_wholesound_k92_how_rows_grow.main.body.getD i (.Pass ⟨0, 0, 0, 0⟩)
abbrev s_is_whole : Stmt := top 5
abbrev N_is_whole : List Str := ["value"]
theorem sc_is_whole : FnScope N_is_whole ["value"] (defScope s_is_whole) := ⟨rfl, rfl, rfl, by decide +kernel, rfl, by decide +kernel, by decide +kernel⟩
abbrev s_is_between : Stmt := top 6
abbrev N_is_between : List Str := ["value", "low", "high"]
theorem sc_is_between : FnScope N_is_between ["value", "low", "high"] (defScope s_is_between) := ⟨rfl, rfl, rfl, by decide +kernel, rfl, by decide +kernel, by decide +kernel⟩
abbrev s_is_bits : Stmt := top 7
abbrev N_is_bits : List Str := ["value", "sign"]
theorem sc_is_bits : FnScope N_is_bits ["value"] (defScope s_is_bits) := ⟨rfl, rfl, rfl, by decide +kernel, rfl, by decide +kernel, by decide +kernel⟩
abbrev s_check_number : Stmt := top 8
abbrev N_check_number : List Str := ["number", "low", "high"]
theorem sc_check_number : FnScope N_check_number ["number", "low", "high"] (defScope s_check_number) := ⟨rfl, rfl, rfl, by decide +kernel, rfl, by decide +kernel, by decide +kernel⟩
abbrev s_is_mark : Stmt := top 11
abbrev N_is_mark : List Str := ["value"]
theorem sc_is_mark : FnScope N_is_mark ["value"] (defScope s_is_mark) := ⟨rfl, rfl, rfl, by decide +kernel, rfl, by decide +kernel, by decide +kernel⟩
abbrev s_check_mark : Stmt := top 12
abbrev N_check_mark : List Str := ["mark"]
theorem sc_check_mark : FnScope N_check_mark ["mark"] (defScope s_check_mark) := ⟨rfl, rfl, rfl, by decide +kernel, rfl, by decide +kernel, by decide +kernel⟩
abbrev s_bit_put_in : Stmt := top 13
abbrev N_bit_put_in : List Str := ["mark"]
theorem sc_bit_put_in : FnScope N_bit_put_in ["mark"] (defScope s_bit_put_in) := ⟨rfl, rfl, rfl, by decide +kernel, rfl, by decide +kernel, by decide +kernel⟩
abbrev s_is_keepable : Stmt := top 14
abbrev N_is_keepable : List Str := ["mark"]
theorem sc_is_keepable : FnScope N_is_keepable ["mark"] (defScope s_is_keepable) := ⟨rfl, rfl, rfl, by decide +kernel, rfl, by decide +kernel, by decide +kernel⟩
abbrev s_state_after : Stmt := top 15
abbrev N_state_after : List Str := ["mark", "state", "bit", "word", "width"]
theorem sc_state_after : FnScope N_state_after ["mark", "state", "bit"] (defScope s_state_after) := ⟨rfl, rfl, rfl, by decide +kernel, rfl, by decide +kernel, by decide +kernel⟩
abbrev s_check_keepable : Stmt := top 21
abbrev N_check_keepable : List Str := ["mark"]
theorem sc_check_keepable : FnScope N_check_keepable ["mark"] (defScope s_check_keepable) := ⟨rfl, rfl, rfl, by decide +kernel, rfl, by decide +kernel, by decide +kernel⟩
abbrev s_state_behind : Stmt := top 22
abbrev N_state_behind : List Str := ["mark"]
theorem sc_state_behind : FnScope N_state_behind ["mark"] (defScope s_state_behind) := ⟨rfl, rfl, rfl, by decide +kernel, rfl, by decide +kernel, by decide +kernel⟩
abbrev s_most_growth : Stmt := top 23
abbrev N_most_growth : List Str := ["mark", "many", "ahead"]
theorem sc_most_growth : FnScope N_most_growth ["mark", "many"] (defScope s_most_growth) := ⟨rfl, rfl, rfl, by decide +kernel, rfl, by decide +kernel, by decide +kernel⟩
abbrev s_most_row : Stmt := top 24
abbrev N_most_row : List Str := ["mark", "many", "row"]
theorem sc_most_row : FnScope N_most_row ["mark", "many"] (defScope s_most_row) := ⟨rfl, rfl, rfl, by decide +kernel, rfl, by decide +kernel, by decide +kernel⟩
abbrev s_moves_by : Stmt := top 25
abbrev N_moves_by : List Str := ["mark", "state", "full", "behind", "moves", "there", "bit", "spot"]
theorem sc_moves_by : FnScope N_moves_by ["mark"] (defScope s_moves_by) := ⟨rfl, rfl, rfl, by decide +kernel, rfl, by decide +kernel, by decide +kernel⟩
abbrev s_summed : Stmt := top 26
abbrev N_summed : List Str := ["one", "other", "width", "mine", "theirs", "left", "right"]
theorem sc_summed : FnScope N_summed ["one", "other"] (defScope s_summed) := ⟨rfl, rfl, rfl, by decide +kernel, rfl, by decide +kernel, by decide +kernel⟩
abbrev s_counts_by : Stmt := top 27
abbrev N_counts_by : List Str := ["moves", "counts", "later", "both", "numbers", "state", "there", "more"]
theorem sc_counts_by : FnScope N_counts_by ["moves", "counts"] (defScope s_counts_by) := ⟨rfl, rfl, rfl, by decide +kernel, rfl, by decide +kernel, by decide +kernel⟩
abbrev s_first_counts : Stmt := top 28
abbrev N_first_counts : List Str := ["moves", "state"]
theorem sc_first_counts : FnScope N_first_counts ["moves"] (defScope s_first_counts) := ⟨rfl, rfl, rfl, by decide +kernel, rfl, by decide +kernel, by decide +kernel⟩
abbrev s_all_counts : Stmt := top 29
abbrev N_all_counts : List Str := ["counts", "total", "numbers"]
theorem sc_all_counts : FnScope N_all_counts ["counts"] (defScope s_all_counts) := ⟨rfl, rfl, rfl, by decide +kernel, rfl, by decide +kernel, by decide +kernel⟩
abbrev s_growths : Stmt := top 30
abbrev N_growths : List Str := ["mark", "many", "moves", "counts", "turn"]
theorem sc_growths : FnScope N_growths ["mark", "many"] (defScope s_growths) := ⟨rfl, rfl, rfl, by decide +kernel, rfl, by decide +kernel, by decide +kernel⟩
abbrev s_sum_growth : Stmt := top 31
abbrev N_sum_growth : List Str := ["mark", "many", "moves", "turn", "counts", "sums", "later", "more_sums", "state", "both", "there", "more"]
theorem sc_sum_growth : FnScope N_sum_growth ["mark", "many"] (defScope s_sum_growth) := ⟨rfl, rfl, rfl, by decide +kernel, rfl, by decide +kernel, by decide +kernel⟩
abbrev s_parting_growth : Stmt := top 32
abbrev N_parting_growth : List Str := ["one", "other", "many", "left", "right", "mine", "theirs"]
theorem sc_parting_growth : FnScope N_parting_growth ["one", "other"] (defScope s_parting_growth) := ⟨rfl, rfl, rfl, by decide +kernel, rfl, by decide +kernel, by decide +kernel⟩
abbrev s_same_growths : Stmt := top 33
abbrev N_same_growths : List Str := ["one", "other"]
theorem sc_same_growths : FnScope N_same_growths ["one", "other"] (defScope s_same_growths) := ⟨rfl, rfl, rfl, by decide +kernel, rfl, by decide +kernel, by decide +kernel⟩
abbrev s_law_pump : Stmt := top 35
abbrev N_law_pump : List Str := ["_law_script", "_law_at", "_law_cell", "_law_full", "_law_turn", "_law_deep", "_law_near", "_law_far"]
theorem sc_law_pump : FnScope N_law_pump ["_law_script", "_law_at"] (defScope s_law_pump) := ⟨rfl, rfl, rfl, by decide +kernel, rfl, by decide +kernel, by decide +kernel⟩
abbrev s_law_cup : Stmt := top 36
abbrev N_law_cup : List Str := ["_law_pump_here", "_law_many", "_law_digit"]
theorem sc_law_cup : FnScope N_law_cup ["_law_pump_here", "_law_many"] (defScope s_law_cup) := ⟨rfl, rfl, rfl, by decide +kernel, rfl, by decide +kernel, by decide +kernel⟩
abbrev s_law_mark : Stmt := top 37
abbrev N_law_mark : List Str := ["_law_pump_here", "_law_least", "_law_most", "_law_turn", "_law_many", "_law_signs"]
theorem sc_law_mark : FnScope N_law_mark ["_law_pump_here", "_law_least", "_law_most"] (defScope s_law_mark) := ⟨rfl, rfl, rfl, by decide +kernel, rfl, by decide +kernel, by decide +kernel⟩
abbrev s_law_keepable : Stmt := top 38
abbrev N_law_keepable : List Str := ["_law_mark_here", "_law_bit"]
theorem sc_law_keepable : FnScope N_law_keepable ["_law_mark_here"] (defScope s_law_keepable) := ⟨rfl, rfl, rfl, by decide +kernel, rfl, by decide +kernel, by decide +kernel⟩
abbrev s_law_words : Stmt := top 39
abbrev N_law_words : List Str := ["_law_many", "_law_words_here", "_law_turn", "_law_longer", "_law_word"]
theorem sc_law_words : FnScope N_law_words ["_law_many"] (defScope s_law_words) := ⟨rfl, rfl, rfl, by decide +kernel, rfl, by decide +kernel, by decide +kernel⟩
abbrev s_law_keepable_mark : Stmt := top 40
abbrev N_law_keepable_mark : List Str := ["_law_pump_here", "_law_least", "_law_most", "_law_mark_here"]
theorem sc_law_keepable_mark : FnScope N_law_keepable_mark ["_law_pump_here", "_law_least", "_law_most"] (defScope s_law_keepable_mark) := ⟨rfl, rfl, rfl, by decide +kernel, rfl, by decide +kernel, by decide +kernel⟩
abbrev s_law_grown : Stmt := top 41
abbrev N_law_grown : List Str := ["_law_mark_here", "_law_row", "_law_told", "_law_bit"]
theorem sc_law_grown : FnScope N_law_grown ["_law_mark_here", "_law_row"] (defScope s_law_grown) := ⟨rfl, rfl, rfl, by decide +kernel, rfl, by decide +kernel, by decide +kernel⟩
abbrev s_law_counts : Stmt := top 42
abbrev N_law_counts : List Str := ["_law_mark_here", "_law_many", "_law_found", "_law_word", "_law_grown_here"]
theorem sc_law_counts : FnScope N_law_counts ["_law_mark_here", "_law_many"] (defScope s_law_counts) := ⟨rfl, rfl, rfl, by decide +kernel, rfl, by decide +kernel, by decide +kernel⟩
abbrev s_law_other_bits : Stmt := top 43
abbrev N_law_other_bits : List Str := ["_law_mark_here", "_law_bit"]
theorem sc_law_other_bits : FnScope N_law_other_bits ["_law_mark_here"] (defScope s_law_other_bits) := ⟨rfl, rfl, rfl, by decide +kernel, rfl, by decide +kernel, by decide +kernel⟩
abbrev s_law_caught : Stmt := top 44
abbrev N_law_caught : List Str := ["_law_way", "_law_mark_here", "_law_many", "_law_told", "error"]
theorem sc_law_caught : FnScope N_law_caught ["_law_way", "_law_mark_here", "_law_many"] (defScope s_law_caught) := ⟨rfl, rfl, rfl, by decide +kernel, rfl, by decide +kernel, by decide +kernel⟩
abbrev s_law_refused : Stmt := top 45
abbrev N_law_refused : List Str := ["_law_mark_here", "_law_bad", "_law_told", "_law_way", "_law_most", "_law_one"]
theorem sc_law_refused : FnScope N_law_refused ["_law_mark_here"] (defScope s_law_refused) := ⟨rfl, rfl, rfl, by decide +kernel, rfl, by decide +kernel, by decide +kernel⟩
abbrev s_law_small_right : Stmt := top 46
abbrev N_law_small_right : List Str := ["_law_mark_here", "_law_many", "_law_due", "_law_told", "_law_row", "_law_grown_here", "_law_number"]
theorem sc_law_small_right : FnScope N_law_small_right ["_law_mark_here", "_law_many"] (defScope s_law_small_right) := ⟨rfl, rfl, rfl, by decide +kernel, rfl, by decide +kernel, by decide +kernel⟩
abbrev s_law_step : Stmt := top 47
abbrev N_law_step : List Str := ["_law_mark_here", "_law_ahead", "_law_over", "_law_wide"]
theorem sc_law_step : FnScope N_law_step ["_law_mark_here"] (defScope s_law_step) := ⟨rfl, rfl, rfl, by decide +kernel, rfl, by decide +kernel, by decide +kernel⟩
abbrev s_law_great_right : Stmt := top 48
abbrev N_law_great_right : List Str := ["_law_pump_here", "_law_mark_here", "_law_step_here", "_law_many", "_law_told", "_law_some", "_law_few", "_law_grown_here", "_law_number"]
theorem sc_law_great_right : FnScope N_law_great_right ["_law_pump_here", "_law_mark_here"] (defScope s_law_great_right) := ⟨rfl, rfl, rfl, by decide +kernel, rfl, by decide +kernel, by decide +kernel⟩
abbrev s_law_pair_right : Stmt := top 49
abbrev N_law_pair_right : List Str := ["_law_one", "_law_other", "_law_lengths", "_law_due", "_law_told", "_law_many"]
theorem sc_law_pair_right : FnScope N_law_pair_right ["_law_one", "_law_other"] (defScope s_law_pair_right) := ⟨rfl, rfl, rfl, by decide +kernel, rfl, by decide +kernel, by decide +kernel⟩
abbrev s_law : Stmt := top 50
abbrev N_law : List Str := ["_law_script", "_law_pump_here", "_law_mark_here", "_law_some", "_law_one", "_law_other", "_law_many"]
theorem sc_law : FnScope N_law ["_law_script"] (defScope s_law) := ⟨rfl, rfl, rfl, by decide +kernel, rfl, by decide +kernel, by decide +kernel⟩
abbrev s_InvalidNumber___init__ : Stmt := inClass (top 2) 0
theorem nsc_InvalidNumber : NdefX.NScope ["self", "value", "__class__"] ["self", "value"] ["__class__"] (defScope s_InvalidNumber___init__) := NdefX.nscope_by (by decide +kernel)
theorem sb_InvalidNumber : Sup.SupBody s_InvalidNumber___init__ := ⟨_, _, _, _, _, _, _, _, _, _, rfl, by decide +kernel, fun env => ⟨_, rfl⟩⟩
abbrev s_InvalidMark___init__ : Stmt := inClass (top 3) 0
theorem nsc_InvalidMark : NdefX.NScope ["self", "value", "__class__"] ["self", "value"] ["__class__"] (defScope s_InvalidMark___init__) := NdefX.nscope_by (by decide +kernel)
theorem sb_InvalidMark : Sup.SupBody s_InvalidMark___init__ := ⟨_, _, _, _, _, _, _, _, _, _, rfl, by decide +kernel, fun env => ⟨_, rfl⟩⟩
def fileS : Str := PySem.Challenge.pw_wholesound_k92_how_rows_grow.main.file
/-- what the top has left -/
structure Top (K : PySem.W.Frag) (mg : Str → Option Value) where
  f_is_whole : Addr
  fd_is_whole : FuncData
  F_is_whole : FunD K "is_whole" "is_whole" (defArgs s_is_whole) (defBody s_is_whole) (defScope s_is_whole) [] [] f_is_whole fd_is_whole
  b_is_whole : Binds K fd_is_whole ["value"] []
  g_is_whole : mg "is_whole" = some (.ref f_is_whole)
  f_is_between : Addr
  fd_is_between : FuncData
  F_is_between : FunD K "is_between" "is_between" (defArgs s_is_between) (defBody s_is_between) (defScope s_is_between) [] [] f_is_between fd_is_between
  b_is_between : Binds K fd_is_between ["value", "low", "high"] []
  g_is_between : mg "is_between" = some (.ref f_is_between)
  f_is_bits : Addr
  fd_is_bits : FuncData
  F_is_bits : FunD K "is_bits" "is_bits" (defArgs s_is_bits) (defBody s_is_bits) (defScope s_is_bits) [] [] f_is_bits fd_is_bits
  b_is_bits : Binds K fd_is_bits ["value"] []
  g_is_bits : mg "is_bits" = some (.ref f_is_bits)
  f_check_number : Addr
  fd_check_number : FuncData
  F_check_number : FunD K "check_number" "check_number" (defArgs s_check_number) (defBody s_check_number) (defScope s_check_number) [] [] f_check_number fd_check_number
  b_check_number : Binds K fd_check_number ["number", "low", "high"] []
  g_check_number : mg "check_number" = some (.ref f_check_number)
  f_is_mark : Addr
  fd_is_mark : FuncData
  F_is_mark : FunD K "is_mark" "is_mark" (defArgs s_is_mark) (defBody s_is_mark) (defScope s_is_mark) [] [] f_is_mark fd_is_mark
  b_is_mark : Binds K fd_is_mark ["value"] []
  g_is_mark : mg "is_mark" = some (.ref f_is_mark)
  f_check_mark : Addr
  fd_check_mark : FuncData
  F_check_mark : FunD K "check_mark" "check_mark" (defArgs s_check_mark) (defBody s_check_mark) (defScope s_check_mark) [] [] f_check_mark fd_check_mark
  b_check_mark : Binds K fd_check_mark ["mark"] []
  g_check_mark : mg "check_mark" = some (.ref f_check_mark)
  f_bit_put_in : Addr
  fd_bit_put_in : FuncData
  F_bit_put_in : FunD K "bit_put_in" "bit_put_in" (defArgs s_bit_put_in) (defBody s_bit_put_in) (defScope s_bit_put_in) [] [] f_bit_put_in fd_bit_put_in
  b_bit_put_in : Binds K fd_bit_put_in ["mark"] []
  g_bit_put_in : mg "bit_put_in" = some (.ref f_bit_put_in)
  f_is_keepable : Addr
  fd_is_keepable : FuncData
  F_is_keepable : FunD K "is_keepable" "is_keepable" (defArgs s_is_keepable) (defBody s_is_keepable) (defScope s_is_keepable) [] [] f_is_keepable fd_is_keepable
  b_is_keepable : Binds K fd_is_keepable ["mark"] []
  g_is_keepable : mg "is_keepable" = some (.ref f_is_keepable)
  f_state_after : Addr
  fd_state_after : FuncData
  F_state_after : FunD K "state_after" "state_after" (defArgs s_state_after) (defBody s_state_after) (defScope s_state_after) [] [] f_state_after fd_state_after
  b_state_after : Binds K fd_state_after ["mark", "state", "bit"] []
  g_state_after : mg "state_after" = some (.ref f_state_after)
  f_check_keepable : Addr
  fd_check_keepable : FuncData
  F_check_keepable : FunD K "check_keepable" "check_keepable" (defArgs s_check_keepable) (defBody s_check_keepable) (defScope s_check_keepable) [] [] f_check_keepable fd_check_keepable
  b_check_keepable : Binds K fd_check_keepable ["mark"] []
  g_check_keepable : mg "check_keepable" = some (.ref f_check_keepable)
  f_state_behind : Addr
  fd_state_behind : FuncData
  F_state_behind : FunD K "state_behind" "state_behind" (defArgs s_state_behind) (defBody s_state_behind) (defScope s_state_behind) [] [] f_state_behind fd_state_behind
  b_state_behind : Binds K fd_state_behind ["mark"] []
  g_state_behind : mg "state_behind" = some (.ref f_state_behind)
  f_most_growth : Addr
  fd_most_growth : FuncData
  F_most_growth : FunD K "most_growth" "most_growth" (defArgs s_most_growth) (defBody s_most_growth) (defScope s_most_growth) [] [] f_most_growth fd_most_growth
  b_most_growth : Binds K fd_most_growth ["mark", "many"] []
  g_most_growth : mg "most_growth" = some (.ref f_most_growth)
  f_most_row : Addr
  fd_most_row : FuncData
  F_most_row : FunD K "most_row" "most_row" (defArgs s_most_row) (defBody s_most_row) (defScope s_most_row) [] [] f_most_row fd_most_row
  b_most_row : Binds K fd_most_row ["mark", "many"] []
  g_most_row : mg "most_row" = some (.ref f_most_row)
  f_moves_by : Addr
  fd_moves_by : FuncData
  F_moves_by : FunD K "moves_by" "moves_by" (defArgs s_moves_by) (defBody s_moves_by) (defScope s_moves_by) [] [] f_moves_by fd_moves_by
  b_moves_by : Binds K fd_moves_by ["mark"] []
  g_moves_by : mg "moves_by" = some (.ref f_moves_by)
  f_summed : Addr
  fd_summed : FuncData
  F_summed : FunD K "summed" "summed" (defArgs s_summed) (defBody s_summed) (defScope s_summed) [] [] f_summed fd_summed
  b_summed : Binds K fd_summed ["one", "other"] []
  g_summed : mg "summed" = some (.ref f_summed)
  f_counts_by : Addr
  fd_counts_by : FuncData
  F_counts_by : FunD K "counts_by" "counts_by" (defArgs s_counts_by) (defBody s_counts_by) (defScope s_counts_by) [] [] f_counts_by fd_counts_by
  b_counts_by : Binds K fd_counts_by ["moves", "counts"] []
  g_counts_by : mg "counts_by" = some (.ref f_counts_by)
  f_first_counts : Addr
  fd_first_counts : FuncData
  F_first_counts : FunD K "first_counts" "first_counts" (defArgs s_first_counts) (defBody s_first_counts) (defScope s_first_counts) [] [] f_first_counts fd_first_counts
  b_first_counts : Binds K fd_first_counts ["moves"] []
  g_first_counts : mg "first_counts" = some (.ref f_first_counts)
  f_all_counts : Addr
  fd_all_counts : FuncData
  F_all_counts : FunD K "all_counts" "all_counts" (defArgs s_all_counts) (defBody s_all_counts) (defScope s_all_counts) [] [] f_all_counts fd_all_counts
  b_all_counts : Binds K fd_all_counts ["counts"] []
  g_all_counts : mg "all_counts" = some (.ref f_all_counts)
  f_growths : Addr
  fd_growths : FuncData
  F_growths : FunD K "growths" "growths" (defArgs s_growths) (defBody s_growths) (defScope s_growths) [] [] f_growths fd_growths
  b_growths : Binds K fd_growths ["mark", "many"] []
  g_growths : mg "growths" = some (.ref f_growths)
  f_sum_growth : Addr
  fd_sum_growth : FuncData
  F_sum_growth : FunD K "sum_growth" "sum_growth" (defArgs s_sum_growth) (defBody s_sum_growth) (defScope s_sum_growth) [] [] f_sum_growth fd_sum_growth
  b_sum_growth : Binds K fd_sum_growth ["mark", "many"] []
  g_sum_growth : mg "sum_growth" = some (.ref f_sum_growth)
  f_parting_growth : Addr
  fd_parting_growth : FuncData
  F_parting_growth : FunD K "parting_growth" "parting_growth" (defArgs s_parting_growth) (defBody s_parting_growth) (defScope s_parting_growth) [] [] f_parting_growth fd_parting_growth
  b_parting_growth : Binds K fd_parting_growth ["one", "other"] []
  g_parting_growth : mg "parting_growth" = some (.ref f_parting_growth)
  f_same_growths : Addr
  fd_same_growths : FuncData
  F_same_growths : FunD K "same_growths" "same_growths" (defArgs s_same_growths) (defBody s_same_growths) (defScope s_same_growths) [] [] f_same_growths fd_same_growths
  b_same_growths : Binds K fd_same_growths ["one", "other"] []
  g_same_growths : mg "same_growths" = some (.ref f_same_growths)
  f_law_pump : Addr
  fd_law_pump : FuncData
  F_law_pump : FunD K "_law_pump" "_law_pump" (defArgs s_law_pump) (defBody s_law_pump) (defScope s_law_pump) [] [] f_law_pump fd_law_pump
  b_law_pump : Binds K fd_law_pump ["_law_script", "_law_at"] []
  g_law_pump : mg "_law_pump" = some (.ref f_law_pump)
  f_law_cup : Addr
  fd_law_cup : FuncData
  F_law_cup : FunD K "_law_cup" "_law_cup" (defArgs s_law_cup) (defBody s_law_cup) (defScope s_law_cup) [] [] f_law_cup fd_law_cup
  b_law_cup : Binds K fd_law_cup ["_law_pump_here", "_law_many"] []
  g_law_cup : mg "_law_cup" = some (.ref f_law_cup)
  f_law_mark : Addr
  fd_law_mark : FuncData
  F_law_mark : FunD K "_law_mark" "_law_mark" (defArgs s_law_mark) (defBody s_law_mark) (defScope s_law_mark) [] [] f_law_mark fd_law_mark
  b_law_mark : Binds K fd_law_mark ["_law_pump_here", "_law_least", "_law_most"] []
  g_law_mark : mg "_law_mark" = some (.ref f_law_mark)
  f_law_keepable : Addr
  fd_law_keepable : FuncData
  F_law_keepable : FunD K "_law_keepable" "_law_keepable" (defArgs s_law_keepable) (defBody s_law_keepable) (defScope s_law_keepable) [] [] f_law_keepable fd_law_keepable
  b_law_keepable : Binds K fd_law_keepable ["_law_mark_here"] []
  g_law_keepable : mg "_law_keepable" = some (.ref f_law_keepable)
  f_law_words : Addr
  fd_law_words : FuncData
  F_law_words : FunD K "_law_words" "_law_words" (defArgs s_law_words) (defBody s_law_words) (defScope s_law_words) [] [] f_law_words fd_law_words
  b_law_words : Binds K fd_law_words ["_law_many"] []
  g_law_words : mg "_law_words" = some (.ref f_law_words)
  f_law_keepable_mark : Addr
  fd_law_keepable_mark : FuncData
  F_law_keepable_mark : FunD K "_law_keepable_mark" "_law_keepable_mark" (defArgs s_law_keepable_mark) (defBody s_law_keepable_mark) (defScope s_law_keepable_mark) [] [] f_law_keepable_mark fd_law_keepable_mark
  b_law_keepable_mark : Binds K fd_law_keepable_mark ["_law_pump_here", "_law_least", "_law_most"] []
  g_law_keepable_mark : mg "_law_keepable_mark" = some (.ref f_law_keepable_mark)
  f_law_grown : Addr
  fd_law_grown : FuncData
  F_law_grown : FunD K "_law_grown" "_law_grown" (defArgs s_law_grown) (defBody s_law_grown) (defScope s_law_grown) [] [] f_law_grown fd_law_grown
  b_law_grown : Binds K fd_law_grown ["_law_mark_here", "_law_row"] []
  g_law_grown : mg "_law_grown" = some (.ref f_law_grown)
  f_law_counts : Addr
  fd_law_counts : FuncData
  F_law_counts : FunD K "_law_counts" "_law_counts" (defArgs s_law_counts) (defBody s_law_counts) (defScope s_law_counts) [] [] f_law_counts fd_law_counts
  b_law_counts : Binds K fd_law_counts ["_law_mark_here", "_law_many"] []
  g_law_counts : mg "_law_counts" = some (.ref f_law_counts)
  f_law_other_bits : Addr
  fd_law_other_bits : FuncData
  F_law_other_bits : FunD K "_law_other_bits" "_law_other_bits" (defArgs s_law_other_bits) (defBody s_law_other_bits) (defScope s_law_other_bits) [] [] f_law_other_bits fd_law_other_bits
  b_law_other_bits : Binds K fd_law_other_bits ["_law_mark_here"] []
  g_law_other_bits : mg "_law_other_bits" = some (.ref f_law_other_bits)
  f_law_caught : Addr
  fd_law_caught : FuncData
  F_law_caught : FunD K "_law_caught" "_law_caught" (defArgs s_law_caught) (defBody s_law_caught) (defScope s_law_caught) [] [] f_law_caught fd_law_caught
  b_law_caught : Binds K fd_law_caught ["_law_way", "_law_mark_here", "_law_many"] []
  g_law_caught : mg "_law_caught" = some (.ref f_law_caught)
  f_law_refused : Addr
  fd_law_refused : FuncData
  F_law_refused : FunD K "_law_refused" "_law_refused" (defArgs s_law_refused) (defBody s_law_refused) (defScope s_law_refused) [] [] f_law_refused fd_law_refused
  b_law_refused : Binds K fd_law_refused ["_law_mark_here"] []
  g_law_refused : mg "_law_refused" = some (.ref f_law_refused)
  f_law_small_right : Addr
  fd_law_small_right : FuncData
  F_law_small_right : FunD K "_law_small_right" "_law_small_right" (defArgs s_law_small_right) (defBody s_law_small_right) (defScope s_law_small_right) [] [] f_law_small_right fd_law_small_right
  b_law_small_right : Binds K fd_law_small_right ["_law_mark_here", "_law_many"] []
  g_law_small_right : mg "_law_small_right" = some (.ref f_law_small_right)
  f_law_step : Addr
  fd_law_step : FuncData
  F_law_step : FunD K "_law_step" "_law_step" (defArgs s_law_step) (defBody s_law_step) (defScope s_law_step) [] [] f_law_step fd_law_step
  b_law_step : Binds K fd_law_step ["_law_mark_here"] []
  g_law_step : mg "_law_step" = some (.ref f_law_step)
  f_law_great_right : Addr
  fd_law_great_right : FuncData
  F_law_great_right : FunD K "_law_great_right" "_law_great_right" (defArgs s_law_great_right) (defBody s_law_great_right) (defScope s_law_great_right) [] [] f_law_great_right fd_law_great_right
  b_law_great_right : Binds K fd_law_great_right ["_law_pump_here", "_law_mark_here"] []
  g_law_great_right : mg "_law_great_right" = some (.ref f_law_great_right)
  f_law_pair_right : Addr
  fd_law_pair_right : FuncData
  F_law_pair_right : FunD K "_law_pair_right" "_law_pair_right" (defArgs s_law_pair_right) (defBody s_law_pair_right) (defScope s_law_pair_right) [] [] f_law_pair_right fd_law_pair_right
  b_law_pair_right : Binds K fd_law_pair_right ["_law_one", "_law_other"] []
  g_law_pair_right : mg "_law_pair_right" = some (.ref f_law_pair_right)
  f_law : Addr
  fd_law : FuncData
  F_law : FunD K "law" "law" (defArgs s_law) (defBody s_law) (defScope s_law) [] [] f_law fd_law
  b_law : Binds K fd_law ["_law_script"] []
  g_law : mg "law" = some (.ref f_law)
  C_InvalidNumber : Addr
  gc_InvalidNumber : mg "InvalidNumber" = some (.ref C_InvalidNumber)
  fi_InvalidNumber : Addr
  fd_InvalidNumber : FuncData
  er_InvalidNumber : ErrC K fileS "InvalidNumber" s_InvalidNumber___init__ C_InvalidNumber fi_InvalidNumber fd_InvalidNumber
  C_InvalidMark : Addr
  gc_InvalidMark : mg "InvalidMark" = some (.ref C_InvalidMark)
  fi_InvalidMark : Addr
  fd_InvalidMark : FuncData
  er_InvalidMark : ErrC K fileS "InvalidMark" s_InvalidMark___init__ C_InvalidMark fi_InvalidMark fd_InvalidMark
  em_InvalidNumber_InvalidMark : PySem.W.exmOne K (.ref C_InvalidNumber) (.ref C_InvalidMark) = some false
  em_InvalidNumber_InvalidNumber : PySem.W.exmOne K (.ref C_InvalidNumber) (.ref C_InvalidNumber) = some true
  em_InvalidMark_InvalidMark : PySem.W.exmOne K (.ref C_InvalidMark) (.ref C_InvalidMark) = some true
  em_InvalidMark_InvalidNumber : PySem.W.exmOne K (.ref C_InvalidMark) (.ref C_InvalidNumber) = some false
  n_len : mg "len" = none
  n_sum : mg "sum" = none
  n_max : mg "max" = none
  n_int : mg "int" = none
  n_bool : mg "bool" = none
  n_str : mg "str" = none
  n_range : mg "range" = none
  n_isinstance : mg "isinstance" = none
  n_enumerate : mg "enumerate" = none
  n_zip : mg "zip" = none
  n_repr : mg "repr" = none
  n_super : mg "super" = none
  t_MOST_MARK : Tok
  m_MOST_MARK : mg "MOST_MARK" = some (.int 16 t_MOST_MARK)
  t_MOST_MANY : Tok
  m_MOST_MANY : mg "MOST_MANY" = some (.int 1000000000000000000 t_MOST_MANY)
  t_MOST_ROW : Tok
  m_MOST_ROW : mg "MOST_ROW" = some (.int 4000 t_MOST_ROW)
  t_MOST_LIST : Tok
  m_MOST_LIST : mg "MOST_LIST" = some (.int 60 t_MOST_LIST)
  t_MOST_SUM : Tok
  m_MOST_SUM : mg "MOST_SUM" = some (.int 300 t_MOST_SUM)
def d_is_whole : He.DefD := ⟨("is_whole", none), "is_whole", "is_whole", defArgs s_is_whole, defBody s_is_whole, defScope s_is_whole, [], []⟩
def d_is_between : He.DefD := ⟨("is_between", none), "is_between", "is_between", defArgs s_is_between, defBody s_is_between, defScope s_is_between, [], []⟩
def d_is_bits : He.DefD := ⟨("is_bits", none), "is_bits", "is_bits", defArgs s_is_bits, defBody s_is_bits, defScope s_is_bits, [], []⟩
def d_check_number : He.DefD := ⟨("check_number", none), "check_number", "check_number", defArgs s_check_number, defBody s_check_number, defScope s_check_number, [], []⟩
def d_is_mark : He.DefD := ⟨("is_mark", none), "is_mark", "is_mark", defArgs s_is_mark, defBody s_is_mark, defScope s_is_mark, [], []⟩
def d_check_mark : He.DefD := ⟨("check_mark", none), "check_mark", "check_mark", defArgs s_check_mark, defBody s_check_mark, defScope s_check_mark, [], []⟩
def d_bit_put_in : He.DefD := ⟨("bit_put_in", none), "bit_put_in", "bit_put_in", defArgs s_bit_put_in, defBody s_bit_put_in, defScope s_bit_put_in, [], []⟩
def d_is_keepable : He.DefD := ⟨("is_keepable", none), "is_keepable", "is_keepable", defArgs s_is_keepable, defBody s_is_keepable, defScope s_is_keepable, [], []⟩
def d_state_after : He.DefD := ⟨("state_after", none), "state_after", "state_after", defArgs s_state_after, defBody s_state_after, defScope s_state_after, [], []⟩
def d_check_keepable : He.DefD := ⟨("check_keepable", none), "check_keepable", "check_keepable", defArgs s_check_keepable, defBody s_check_keepable, defScope s_check_keepable, [], []⟩
def d_state_behind : He.DefD := ⟨("state_behind", none), "state_behind", "state_behind", defArgs s_state_behind, defBody s_state_behind, defScope s_state_behind, [], []⟩
def d_most_growth : He.DefD := ⟨("most_growth", none), "most_growth", "most_growth", defArgs s_most_growth, defBody s_most_growth, defScope s_most_growth, [], []⟩
def d_most_row : He.DefD := ⟨("most_row", none), "most_row", "most_row", defArgs s_most_row, defBody s_most_row, defScope s_most_row, [], []⟩
def d_moves_by : He.DefD := ⟨("moves_by", none), "moves_by", "moves_by", defArgs s_moves_by, defBody s_moves_by, defScope s_moves_by, [], []⟩
def d_summed : He.DefD := ⟨("summed", none), "summed", "summed", defArgs s_summed, defBody s_summed, defScope s_summed, [], []⟩
def d_counts_by : He.DefD := ⟨("counts_by", none), "counts_by", "counts_by", defArgs s_counts_by, defBody s_counts_by, defScope s_counts_by, [], []⟩
def d_first_counts : He.DefD := ⟨("first_counts", none), "first_counts", "first_counts", defArgs s_first_counts, defBody s_first_counts, defScope s_first_counts, [], []⟩
def d_all_counts : He.DefD := ⟨("all_counts", none), "all_counts", "all_counts", defArgs s_all_counts, defBody s_all_counts, defScope s_all_counts, [], []⟩
def d_growths : He.DefD := ⟨("growths", none), "growths", "growths", defArgs s_growths, defBody s_growths, defScope s_growths, [], []⟩
def d_sum_growth : He.DefD := ⟨("sum_growth", none), "sum_growth", "sum_growth", defArgs s_sum_growth, defBody s_sum_growth, defScope s_sum_growth, [], []⟩
def d_parting_growth : He.DefD := ⟨("parting_growth", none), "parting_growth", "parting_growth", defArgs s_parting_growth, defBody s_parting_growth, defScope s_parting_growth, [], []⟩
def d_same_growths : He.DefD := ⟨("same_growths", none), "same_growths", "same_growths", defArgs s_same_growths, defBody s_same_growths, defScope s_same_growths, [], []⟩
def d_law_pump : He.DefD := ⟨("_law_pump", none), "_law_pump", "_law_pump", defArgs s_law_pump, defBody s_law_pump, defScope s_law_pump, [], []⟩
def d_law_cup : He.DefD := ⟨("_law_cup", none), "_law_cup", "_law_cup", defArgs s_law_cup, defBody s_law_cup, defScope s_law_cup, [], []⟩
def d_law_mark : He.DefD := ⟨("_law_mark", none), "_law_mark", "_law_mark", defArgs s_law_mark, defBody s_law_mark, defScope s_law_mark, [], []⟩
def d_law_keepable : He.DefD := ⟨("_law_keepable", none), "_law_keepable", "_law_keepable", defArgs s_law_keepable, defBody s_law_keepable, defScope s_law_keepable, [], []⟩
def d_law_words : He.DefD := ⟨("_law_words", none), "_law_words", "_law_words", defArgs s_law_words, defBody s_law_words, defScope s_law_words, [], []⟩
def d_law_keepable_mark : He.DefD := ⟨("_law_keepable_mark", none), "_law_keepable_mark", "_law_keepable_mark", defArgs s_law_keepable_mark, defBody s_law_keepable_mark, defScope s_law_keepable_mark, [], []⟩
def d_law_grown : He.DefD := ⟨("_law_grown", none), "_law_grown", "_law_grown", defArgs s_law_grown, defBody s_law_grown, defScope s_law_grown, [], []⟩
def d_law_counts : He.DefD := ⟨("_law_counts", none), "_law_counts", "_law_counts", defArgs s_law_counts, defBody s_law_counts, defScope s_law_counts, [], []⟩
def d_law_other_bits : He.DefD := ⟨("_law_other_bits", none), "_law_other_bits", "_law_other_bits", defArgs s_law_other_bits, defBody s_law_other_bits, defScope s_law_other_bits, [], []⟩
def d_law_caught : He.DefD := ⟨("_law_caught", none), "_law_caught", "_law_caught", defArgs s_law_caught, defBody s_law_caught, defScope s_law_caught, [], []⟩
def d_law_refused : He.DefD := ⟨("_law_refused", none), "_law_refused", "_law_refused", defArgs s_law_refused, defBody s_law_refused, defScope s_law_refused, [], []⟩
def d_law_small_right : He.DefD := ⟨("_law_small_right", none), "_law_small_right", "_law_small_right", defArgs s_law_small_right, defBody s_law_small_right, defScope s_law_small_right, [], []⟩
def d_law_step : He.DefD := ⟨("_law_step", none), "_law_step", "_law_step", defArgs s_law_step, defBody s_law_step, defScope s_law_step, [], []⟩
def d_law_great_right : He.DefD := ⟨("_law_great_right", none), "_law_great_right", "_law_great_right", defArgs s_law_great_right, defBody s_law_great_right, defScope s_law_great_right, [], []⟩
def d_law_pair_right : He.DefD := ⟨("_law_pair_right", none), "_law_pair_right", "_law_pair_right", defArgs s_law_pair_right, defBody s_law_pair_right, defScope s_law_pair_right, [], []⟩
def d_law : He.DefD := ⟨("law", none), "law", "law", defArgs s_law, defBody s_law, defScope s_law, [], []⟩
def fn : List He.DefD := [d_is_whole, d_is_between, d_is_bits, d_check_number, d_is_mark, d_check_mark, d_bit_put_in, d_is_keepable, d_state_after, d_check_keepable, d_state_behind, d_most_growth, d_most_row, d_moves_by, d_summed, d_counts_by, d_first_counts, d_all_counts, d_growths, d_sum_growth, d_parting_growth, d_same_growths, d_law_pump, d_law_cup, d_law_mark, d_law_keepable, d_law_words, d_law_keepable_mark, d_law_grown, d_law_counts, d_law_other_bits, d_law_caught, d_law_refused, d_law_small_right, d_law_step, d_law_great_right, d_law_pair_right, d_law]
def fa0 : List He.Fa := [.glo "is_whole", .glo "is_between", .glo "is_bits", .glo "check_number", .glo "is_mark", .glo "check_mark", .glo "bit_put_in", .glo "is_keepable", .glo "state_after", .glo "check_keepable", .glo "state_behind", .glo "most_growth", .glo "most_row", .glo "moves_by", .glo "summed", .glo "counts_by", .glo "first_counts", .glo "all_counts", .glo "growths", .glo "sum_growth", .glo "parting_growth", .glo "same_growths", .glo "_law_pump", .glo "_law_cup", .glo "_law_mark", .glo "_law_keepable", .glo "_law_words", .glo "_law_keepable_mark", .glo "_law_grown", .glo "_law_counts"]
def fa1 : List He.Fa := [.glo "_law_other_bits", .glo "_law_caught", .glo "_law_refused", .glo "_law_small_right", .glo "_law_step", .glo "_law_great_right", .glo "_law_pair_right", .glo "law", .free "len", .free "sum", .free "max", .free "int", .free "bool", .free "str", .free "range", .free "isinstance", .free "enumerate", .free "zip", .free "repr", .free "super", .int "MOST_MARK" 16, .int "MOST_MANY" 1000000000000000000, .int "MOST_ROW" 4000, .int "MOST_LIST" 60, .int "MOST_SUM" 300, .glo "InvalidNumber", .glo "InvalidMark"]
def fa : List He.Fa := fa0 ++ fa1
/-- isinstance of an own class -/
def insB (K : PySem.W.Frag) (x : Str) : Bool := decide (PySem.W.findIn K (.ref (He.ga K x)) "__class__" = some (some (.builtin "object.__class__"))) && (decide (PySem.W.specialIn K (.builtin "object.__class__") "__get__" = some (some (.builtin "getset_descriptor.__get__"))) && (decide (PySem.W.takesIn K (.builtin "object.__class__") = some true) && (decide (PySem.W.mroIn K (He.ga K x) (.type "object") = some true) && decide (PySem.W.kitOne K (.ref (He.ga K x)) (.ref (He.ga K x)) = some true))))
theorem insB_ok {K : PySem.W.Frag} {x : Str} (cl : Cls K (He.ga K x)) (h : insB K x = true) : C8.InsC K (He.ga K x) := by
  unfold insB at h
  simp only [Bool.and_eq_true, decide_eq_true_eq] at h
  exact ⟨cl, h.1, h.2.1, h.2.2.1, h.2.2.2.1, h.2.2.2.2⟩
def eqB (K : PySem.W.Frag) (x : Str) : Bool := decide (PySem.W.findIn K (.ref (He.ga K x)) "__ne__" = some (some (.builtin "object.__ne__"))) && (decide (PySem.W.subIn K (.ref (He.ga K x)) (.type "object") = some true) && (decide (PySem.W.subIn K (.type "list") (.ref (He.ga K x)) = some false) && (decide (PySem.W.kitOne K (.type "list") (.ref (He.ga K x)) = some false) && (decide (PySem.W.subIn K (.type "tuple") (.ref (He.ga K x)) = some false) && decide (PySem.W.kitOne K (.type "tuple") (.ref (He.ga K x)) = some false)))))
def eqs : List Str := []
def own : List Str := []
def ex (K : PySem.W.Frag) : Bool := (own.all fun x => insB K x) && eqs.all fun x => eqB K x
abbrev R : PySem.W.OpenRow := PySem.W.OpenLaw.row PySem.Challenge.rw_wholesound_k92_how_rows_grow
def errs : List Str := ["InvalidNumber", "InvalidMark"]
def ems : List (Str × Str × Bool) := [("InvalidNumber", "InvalidMark", false), ("InvalidNumber", "InvalidNumber", true), ("InvalidMark", "InvalidMark", true), ("InvalidMark", "InvalidNumber", false)]
def emB (K : PySem.W.Frag) (z : Str × Str × Bool) : Bool := decide (PySem.W.exmOne K (.ref (He.ga K z.1)) (.ref (He.ga K z.2.1)) = some z.2.2)
def erV : List ErW := [some (("__init__" : Str), ("InvalidNumber" : Str) ++ (".__init__" : Str), defArgs s_InvalidNumber___init__, FuncBody.stmts (defBody s_InvalidNumber___init__), defScope s_InvalidNumber___init__, mainGlobals, builtinsNs), some (("__init__" : Str), ("InvalidMark" : Str) ++ (".__init__" : Str), defArgs s_InvalidMark___init__, FuncBody.stmts (defBody s_InvalidMark___init__), defScope s_InvalidMark___init__, mainGlobals, builtinsNs)]
def exP (K : PySem.W.Frag) : Bool := ex K && ((errs.all fun z => errB K fileS z) && ems.all fun z => emB K z)
def exW (K : PySem.W.Frag) : List ErW := errs.map fun z => erW K z
abbrev Al : Type := He.AlD × Bool × List ErW
def frK (g : Addr → Option Obj) : PySem.W.Frag := He.frG g (cStatics :: He.asD g 5)
def obsG (g : Addr → Option Obj) : Al := (He.obsD fa fn (frK g), exP (frK g), exW (frK g))
def Says (K : PySem.W.Frag) : Prop := He.SaysD fa fn K ∧ ex K = true ∧ (∀ z ∈ errs, errB K fileS z = true) ∧ (∀ z ∈ ems, emB K z = true) ∧ exW K = erV
theorem says_of {K : PySem.W.Frag} (e : (He.obsD fa fn K, exP K, exW K) = ((He.valD fn, true, erV) : Al)) : Says K := by
  have e1 := congrArg Prod.fst e
  have e2 := congrArg (fun z : Al => z.2.1) e
  have e3 := congrArg (fun z : Al => z.2.2) e
  have e4 : ex K = true ∧ ((errs.all fun z => errB K fileS z) && ems.all fun z => emB K z) = true := Bool.and_eq_true_iff.mp (show (ex K && ((errs.all fun z => errB K fileS z) && ems.all fun z => emB K z)) = true from e2)
  have e5 : (errs.all fun z => errB K fileS z) = true ∧ (ems.all fun z => emB K z) = true := Bool.and_eq_true_iff.mp e4.2
  exact ⟨e1, e4.1, List.all_eq_true.mp e5.1, List.all_eq_true.mp e5.2, e3⟩
theorem erV_at {K : PySem.W.Frag} {ps : List Str} {vs : List ErW} (e : (ps.map fun z => erW K z) = vs) (i : Nat) {z : Str} {v : ErW} (hz : ps[i]? = some z) (hv : vs[i]? = some v) : erW K z = v := by
  rw [← e, List.getElem?_map, hz] at hv
  exact Option.some.inj hv
def hk : PySem.W.Hook where
  α := Al
  obs := fun s => obsG s.heap.get?
  val := fun _ => (He.valD fn, true, erV)
  says := fun _ h => ∃ K : PySem.W.Frag, K.In h ∧ Says K
  of := fun _ _ e => ⟨_, He.frG_in, says_of e⟩
  keeps := fun _ _ _ ⟨K, hK, c⟩ k => ⟨K, PySem.W.Frag.In.keeps hK k, c⟩
def ob (s : PySem.W.SharedT) : Al := obsG (HandSHeadRun.getT s)
theorem ob_eq (s : PySem.W.SharedT) : ob s = hk.obs s.abs := by
  have e : HandSHeadRun.getT s = s.abs.heap.get? := funext (HandSHeadRun.getT_eq s)
  show obsG (HandSHeadRun.getT s) = obsG s.abs.heap.get?
  rw [e]
def loose0 : List PySem.Str := ["SoundError", "InvalidNumber", "InvalidMark", "is_whole", "is_between", "is_bits", "check_number", "MOST_MARK", "is_mark", "check_mark", "bit_put_in", "is_keepable", "state_after", "MOST_MANY", "MOST_ROW", "MOST_LIST", "MOST_SUM", "check_keepable", "state_behind", "most_growth", "most_row", "moves_by", "summed", "counts_by", "first_counts", "all_counts", "growths", "sum_growth", "parting_growth", "same_growths"]
def loose1 : List PySem.Str := ["_law_pump", "_law_cup", "_law_mark", "_law_keepable", "_law_words", "_law_keepable_mark", "_law_grown", "_law_counts", "_law_other_bits", "_law_caught", "_law_refused", "_law_small_right", "_law_step", "_law_great_right", "_law_pair_right"]
abbrev loose : List PySem.Str := loose0 ++ loose1
theorem run (w : World) : HandSHeadRun.RunEq R (PySem.W.view R.prog [50]) hk ob 8000 loose w := by
  intro os
  kernel_rfl
noncomputable def top_mk {K : PySem.W.Frag} {h : Heap} {mg : Str → Option Value} (X : K.In h) (G : h.Ns mainGlobals mg) (c : Says K) : Top K mg :=
  let p0 := c.1.def_ 0 (d := d_is_whole) rfl
  let p1 := c.1.def_ 1 (d := d_is_between) rfl
  let p2 := c.1.def_ 2 (d := d_is_bits) rfl
  let p3 := c.1.def_ 3 (d := d_check_number) rfl
  let p4 := c.1.def_ 4 (d := d_is_mark) rfl
  let p5 := c.1.def_ 5 (d := d_check_mark) rfl
  let p6 := c.1.def_ 6 (d := d_bit_put_in) rfl
  let p7 := c.1.def_ 7 (d := d_is_keepable) rfl
  let p8 := c.1.def_ 8 (d := d_state_after) rfl
  let p9 := c.1.def_ 9 (d := d_check_keepable) rfl
  let p10 := c.1.def_ 10 (d := d_state_behind) rfl
  let p11 := c.1.def_ 11 (d := d_most_growth) rfl
  let p12 := c.1.def_ 12 (d := d_most_row) rfl
  let p13 := c.1.def_ 13 (d := d_moves_by) rfl
  let p14 := c.1.def_ 14 (d := d_summed) rfl
  let p15 := c.1.def_ 15 (d := d_counts_by) rfl
  let p16 := c.1.def_ 16 (d := d_first_counts) rfl
  let p17 := c.1.def_ 17 (d := d_all_counts) rfl
  let p18 := c.1.def_ 18 (d := d_growths) rfl
  let p19 := c.1.def_ 19 (d := d_sum_growth) rfl
  let p20 := c.1.def_ 20 (d := d_parting_growth) rfl
  let p21 := c.1.def_ 21 (d := d_same_growths) rfl
  let p22 := c.1.def_ 22 (d := d_law_pump) rfl
  let p23 := c.1.def_ 23 (d := d_law_cup) rfl
  let p24 := c.1.def_ 24 (d := d_law_mark) rfl
  let p25 := c.1.def_ 25 (d := d_law_keepable) rfl
  let p26 := c.1.def_ 26 (d := d_law_words) rfl
  let p27 := c.1.def_ 27 (d := d_law_keepable_mark) rfl
  let p28 := c.1.def_ 28 (d := d_law_grown) rfl
  let p29 := c.1.def_ 29 (d := d_law_counts) rfl
  let p30 := c.1.def_ 30 (d := d_law_other_bits) rfl
  let p31 := c.1.def_ 31 (d := d_law_caught) rfl
  let p32 := c.1.def_ 32 (d := d_law_refused) rfl
  let p33 := c.1.def_ 33 (d := d_law_small_right) rfl
  let p34 := c.1.def_ 34 (d := d_law_step) rfl
  let p35 := c.1.def_ 35 (d := d_law_great_right) rfl
  let p36 := c.1.def_ 36 (d := d_law_pair_right) rfl
  let p37 := c.1.def_ 37 (d := d_law) rfl
  let q0 := He.int_ok X G (c.1.fact 50 (f := .int "MOST_MARK" 16) rfl)
  let q1 := He.int_ok X G (c.1.fact 51 (f := .int "MOST_MANY" 1000000000000000000) rfl)
  let q2 := He.int_ok X G (c.1.fact 52 (f := .int "MOST_ROW" 4000) rfl)
  let q3 := He.int_ok X G (c.1.fact 53 (f := .int "MOST_LIST" 60) rfl)
  let q4 := He.int_ok X G (c.1.fact 54 (f := .int "MOST_SUM" 300) rfl)
  let er0 := err_ok (K := K) (file := fileS) (x := "InvalidNumber") (st := s_InvalidNumber___init__) (c.2.2.1 "InvalidNumber" (by decide +kernel)) (erV_at c.2.2.2.2 0 (z := "InvalidNumber") rfl rfl) (fun _ _ _ _ _ _ _ _ us its h1 h2 => match us, its, h1, h2 with | [_, _], [_], _, _ => ⟨_, rfl, rfl⟩)
  let er1 := err_ok (K := K) (file := fileS) (x := "InvalidMark") (st := s_InvalidMark___init__) (c.2.2.1 "InvalidMark" (by decide +kernel)) (erV_at c.2.2.2.2 1 (z := "InvalidMark") rfl rfl) (fun _ _ _ _ _ _ _ _ us its h1 h2 => match us, its, h1, h2 with | [_, _], [_], _, _ => ⟨_, rfl, rfl⟩)
  { C_InvalidNumber := _, gc_InvalidNumber := He.glo_ok X G (c.1.fact 55 (f := .glo "InvalidNumber") rfl), fi_InvalidNumber := _, fd_InvalidNumber := er0.choose, er_InvalidNumber := er0.choose_spec,
    C_InvalidMark := _, gc_InvalidMark := He.glo_ok X G (c.1.fact 56 (f := .glo "InvalidMark") rfl), fi_InvalidMark := _, fd_InvalidMark := er1.choose, er_InvalidMark := er1.choose_spec,
    em_InvalidNumber_InvalidMark := of_decide_eq_true (c.2.2.2.1 ("InvalidNumber", "InvalidMark", false) (by decide +kernel)),
    em_InvalidNumber_InvalidNumber := of_decide_eq_true (c.2.2.2.1 ("InvalidNumber", "InvalidNumber", true) (by decide +kernel)),
    em_InvalidMark_InvalidMark := of_decide_eq_true (c.2.2.2.1 ("InvalidMark", "InvalidMark", true) (by decide +kernel)),
    em_InvalidMark_InvalidNumber := of_decide_eq_true (c.2.2.2.1 ("InvalidMark", "InvalidNumber", false) (by decide +kernel)),
    f_is_whole := _, fd_is_whole := p0.choose, F_is_whole := p0.choose_spec, b_is_whole := p0.choose_spec.bindsN fun _ _ _ _ _ _ us hl => match us, hl with | [_], _ => rfl, g_is_whole := He.glo_ok X G (c.1.fact 0 (f := .glo "is_whole") rfl),
    f_is_between := _, fd_is_between := p1.choose, F_is_between := p1.choose_spec, b_is_between := p1.choose_spec.bindsN fun _ _ _ _ _ _ us hl => match us, hl with | [_, _, _], _ => rfl, g_is_between := He.glo_ok X G (c.1.fact 1 (f := .glo "is_between") rfl),
    f_is_bits := _, fd_is_bits := p2.choose, F_is_bits := p2.choose_spec, b_is_bits := p2.choose_spec.bindsN fun _ _ _ _ _ _ us hl => match us, hl with | [_], _ => rfl, g_is_bits := He.glo_ok X G (c.1.fact 2 (f := .glo "is_bits") rfl),
    f_check_number := _, fd_check_number := p3.choose, F_check_number := p3.choose_spec, b_check_number := p3.choose_spec.bindsN fun _ _ _ _ _ _ us hl => match us, hl with | [_, _, _], _ => rfl, g_check_number := He.glo_ok X G (c.1.fact 3 (f := .glo "check_number") rfl),
    f_is_mark := _, fd_is_mark := p4.choose, F_is_mark := p4.choose_spec, b_is_mark := p4.choose_spec.bindsN fun _ _ _ _ _ _ us hl => match us, hl with | [_], _ => rfl, g_is_mark := He.glo_ok X G (c.1.fact 4 (f := .glo "is_mark") rfl),
    f_check_mark := _, fd_check_mark := p5.choose, F_check_mark := p5.choose_spec, b_check_mark := p5.choose_spec.bindsN fun _ _ _ _ _ _ us hl => match us, hl with | [_], _ => rfl, g_check_mark := He.glo_ok X G (c.1.fact 5 (f := .glo "check_mark") rfl),
    f_bit_put_in := _, fd_bit_put_in := p6.choose, F_bit_put_in := p6.choose_spec, b_bit_put_in := p6.choose_spec.bindsN fun _ _ _ _ _ _ us hl => match us, hl with | [_], _ => rfl, g_bit_put_in := He.glo_ok X G (c.1.fact 6 (f := .glo "bit_put_in") rfl),
    f_is_keepable := _, fd_is_keepable := p7.choose, F_is_keepable := p7.choose_spec, b_is_keepable := p7.choose_spec.bindsN fun _ _ _ _ _ _ us hl => match us, hl with | [_], _ => rfl, g_is_keepable := He.glo_ok X G (c.1.fact 7 (f := .glo "is_keepable") rfl),
    f_state_after := _, fd_state_after := p8.choose, F_state_after := p8.choose_spec, b_state_after := p8.choose_spec.bindsN fun _ _ _ _ _ _ us hl => match us, hl with | [_, _, _], _ => rfl, g_state_after := He.glo_ok X G (c.1.fact 8 (f := .glo "state_after") rfl),
    f_check_keepable := _, fd_check_keepable := p9.choose, F_check_keepable := p9.choose_spec, b_check_keepable := p9.choose_spec.bindsN fun _ _ _ _ _ _ us hl => match us, hl with | [_], _ => rfl, g_check_keepable := He.glo_ok X G (c.1.fact 9 (f := .glo "check_keepable") rfl),
    f_state_behind := _, fd_state_behind := p10.choose, F_state_behind := p10.choose_spec, b_state_behind := p10.choose_spec.bindsN fun _ _ _ _ _ _ us hl => match us, hl with | [_], _ => rfl, g_state_behind := He.glo_ok X G (c.1.fact 10 (f := .glo "state_behind") rfl),
    f_most_growth := _, fd_most_growth := p11.choose, F_most_growth := p11.choose_spec, b_most_growth := p11.choose_spec.bindsN fun _ _ _ _ _ _ us hl => match us, hl with | [_, _], _ => rfl, g_most_growth := He.glo_ok X G (c.1.fact 11 (f := .glo "most_growth") rfl),
    f_most_row := _, fd_most_row := p12.choose, F_most_row := p12.choose_spec, b_most_row := p12.choose_spec.bindsN fun _ _ _ _ _ _ us hl => match us, hl with | [_, _], _ => rfl, g_most_row := He.glo_ok X G (c.1.fact 12 (f := .glo "most_row") rfl),
    f_moves_by := _, fd_moves_by := p13.choose, F_moves_by := p13.choose_spec, b_moves_by := p13.choose_spec.bindsN fun _ _ _ _ _ _ us hl => match us, hl with | [_], _ => rfl, g_moves_by := He.glo_ok X G (c.1.fact 13 (f := .glo "moves_by") rfl),
    f_summed := _, fd_summed := p14.choose, F_summed := p14.choose_spec, b_summed := p14.choose_spec.bindsN fun _ _ _ _ _ _ us hl => match us, hl with | [_, _], _ => rfl, g_summed := He.glo_ok X G (c.1.fact 14 (f := .glo "summed") rfl),
    f_counts_by := _, fd_counts_by := p15.choose, F_counts_by := p15.choose_spec, b_counts_by := p15.choose_spec.bindsN fun _ _ _ _ _ _ us hl => match us, hl with | [_, _], _ => rfl, g_counts_by := He.glo_ok X G (c.1.fact 15 (f := .glo "counts_by") rfl),
    f_first_counts := _, fd_first_counts := p16.choose, F_first_counts := p16.choose_spec, b_first_counts := p16.choose_spec.bindsN fun _ _ _ _ _ _ us hl => match us, hl with | [_], _ => rfl, g_first_counts := He.glo_ok X G (c.1.fact 16 (f := .glo "first_counts") rfl),
    f_all_counts := _, fd_all_counts := p17.choose, F_all_counts := p17.choose_spec, b_all_counts := p17.choose_spec.bindsN fun _ _ _ _ _ _ us hl => match us, hl with | [_], _ => rfl, g_all_counts := He.glo_ok X G (c.1.fact 17 (f := .glo "all_counts") rfl),
    f_growths := _, fd_growths := p18.choose, F_growths := p18.choose_spec, b_growths := p18.choose_spec.bindsN fun _ _ _ _ _ _ us hl => match us, hl with | [_, _], _ => rfl, g_growths := He.glo_ok X G (c.1.fact 18 (f := .glo "growths") rfl),
    f_sum_growth := _, fd_sum_growth := p19.choose, F_sum_growth := p19.choose_spec, b_sum_growth := p19.choose_spec.bindsN fun _ _ _ _ _ _ us hl => match us, hl with | [_, _], _ => rfl, g_sum_growth := He.glo_ok X G (c.1.fact 19 (f := .glo "sum_growth") rfl),
    f_parting_growth := _, fd_parting_growth := p20.choose, F_parting_growth := p20.choose_spec, b_parting_growth := p20.choose_spec.bindsN fun _ _ _ _ _ _ us hl => match us, hl with | [_, _], _ => rfl, g_parting_growth := He.glo_ok X G (c.1.fact 20 (f := .glo "parting_growth") rfl),
    f_same_growths := _, fd_same_growths := p21.choose, F_same_growths := p21.choose_spec, b_same_growths := p21.choose_spec.bindsN fun _ _ _ _ _ _ us hl => match us, hl with | [_, _], _ => rfl, g_same_growths := He.glo_ok X G (c.1.fact 21 (f := .glo "same_growths") rfl),
    f_law_pump := _, fd_law_pump := p22.choose, F_law_pump := p22.choose_spec, b_law_pump := p22.choose_spec.bindsN fun _ _ _ _ _ _ us hl => match us, hl with | [_, _], _ => rfl, g_law_pump := He.glo_ok X G (c.1.fact 22 (f := .glo "_law_pump") rfl),
    f_law_cup := _, fd_law_cup := p23.choose, F_law_cup := p23.choose_spec, b_law_cup := p23.choose_spec.bindsN fun _ _ _ _ _ _ us hl => match us, hl with | [_, _], _ => rfl, g_law_cup := He.glo_ok X G (c.1.fact 23 (f := .glo "_law_cup") rfl),
    f_law_mark := _, fd_law_mark := p24.choose, F_law_mark := p24.choose_spec, b_law_mark := p24.choose_spec.bindsN fun _ _ _ _ _ _ us hl => match us, hl with | [_, _, _], _ => rfl, g_law_mark := He.glo_ok X G (c.1.fact 24 (f := .glo "_law_mark") rfl),
    f_law_keepable := _, fd_law_keepable := p25.choose, F_law_keepable := p25.choose_spec, b_law_keepable := p25.choose_spec.bindsN fun _ _ _ _ _ _ us hl => match us, hl with | [_], _ => rfl, g_law_keepable := He.glo_ok X G (c.1.fact 25 (f := .glo "_law_keepable") rfl),
    f_law_words := _, fd_law_words := p26.choose, F_law_words := p26.choose_spec, b_law_words := p26.choose_spec.bindsN fun _ _ _ _ _ _ us hl => match us, hl with | [_], _ => rfl, g_law_words := He.glo_ok X G (c.1.fact 26 (f := .glo "_law_words") rfl),
    f_law_keepable_mark := _, fd_law_keepable_mark := p27.choose, F_law_keepable_mark := p27.choose_spec, b_law_keepable_mark := p27.choose_spec.bindsN fun _ _ _ _ _ _ us hl => match us, hl with | [_, _, _], _ => rfl, g_law_keepable_mark := He.glo_ok X G (c.1.fact 27 (f := .glo "_law_keepable_mark") rfl),
    f_law_grown := _, fd_law_grown := p28.choose, F_law_grown := p28.choose_spec, b_law_grown := p28.choose_spec.bindsN fun _ _ _ _ _ _ us hl => match us, hl with | [_, _], _ => rfl, g_law_grown := He.glo_ok X G (c.1.fact 28 (f := .glo "_law_grown") rfl),
    f_law_counts := _, fd_law_counts := p29.choose, F_law_counts := p29.choose_spec, b_law_counts := p29.choose_spec.bindsN fun _ _ _ _ _ _ us hl => match us, hl with | [_, _], _ => rfl, g_law_counts := He.glo_ok X G (c.1.fact 29 (f := .glo "_law_counts") rfl),
    f_law_other_bits := _, fd_law_other_bits := p30.choose, F_law_other_bits := p30.choose_spec, b_law_other_bits := p30.choose_spec.bindsN fun _ _ _ _ _ _ us hl => match us, hl with | [_], _ => rfl, g_law_other_bits := He.glo_ok X G (c.1.fact 30 (f := .glo "_law_other_bits") rfl),
    f_law_caught := _, fd_law_caught := p31.choose, F_law_caught := p31.choose_spec, b_law_caught := p31.choose_spec.bindsN fun _ _ _ _ _ _ us hl => match us, hl with | [_, _, _], _ => rfl, g_law_caught := He.glo_ok X G (c.1.fact 31 (f := .glo "_law_caught") rfl),
    f_law_refused := _, fd_law_refused := p32.choose, F_law_refused := p32.choose_spec, b_law_refused := p32.choose_spec.bindsN fun _ _ _ _ _ _ us hl => match us, hl with | [_], _ => rfl, g_law_refused := He.glo_ok X G (c.1.fact 32 (f := .glo "_law_refused") rfl),
    f_law_small_right := _, fd_law_small_right := p33.choose, F_law_small_right := p33.choose_spec, b_law_small_right := p33.choose_spec.bindsN fun _ _ _ _ _ _ us hl => match us, hl with | [_, _], _ => rfl, g_law_small_right := He.glo_ok X G (c.1.fact 33 (f := .glo "_law_small_right") rfl),
    f_law_step := _, fd_law_step := p34.choose, F_law_step := p34.choose_spec, b_law_step := p34.choose_spec.bindsN fun _ _ _ _ _ _ us hl => match us, hl with | [_], _ => rfl, g_law_step := He.glo_ok X G (c.1.fact 34 (f := .glo "_law_step") rfl),
    f_law_great_right := _, fd_law_great_right := p35.choose, F_law_great_right := p35.choose_spec, b_law_great_right := p35.choose_spec.bindsN fun _ _ _ _ _ _ us hl => match us, hl with | [_, _], _ => rfl, g_law_great_right := He.glo_ok X G (c.1.fact 35 (f := .glo "_law_great_right") rfl),
    f_law_pair_right := _, fd_law_pair_right := p36.choose, F_law_pair_right := p36.choose_spec, b_law_pair_right := p36.choose_spec.bindsN fun _ _ _ _ _ _ us hl => match us, hl with | [_, _], _ => rfl, g_law_pair_right := He.glo_ok X G (c.1.fact 36 (f := .glo "_law_pair_right") rfl),
    f_law := _, fd_law := p37.choose, F_law := p37.choose_spec, b_law := p37.choose_spec.bindsN fun _ _ _ _ _ _ us hl => match us, hl with | [_], _ => rfl, g_law := He.glo_ok X G (c.1.fact 37 (f := .glo "law") rfl),
    n_len := He.free_ok X G (c.1.fact 38 (f := .free "len") rfl),
    n_sum := He.free_ok X G (c.1.fact 39 (f := .free "sum") rfl),
    n_max := He.free_ok X G (c.1.fact 40 (f := .free "max") rfl),
    n_int := He.free_ok X G (c.1.fact 41 (f := .free "int") rfl),
    n_bool := He.free_ok X G (c.1.fact 42 (f := .free "bool") rfl),
    n_str := He.free_ok X G (c.1.fact 43 (f := .free "str") rfl),
    n_range := He.free_ok X G (c.1.fact 44 (f := .free "range") rfl),
    n_isinstance := He.free_ok X G (c.1.fact 45 (f := .free "isinstance") rfl),
    n_enumerate := He.free_ok X G (c.1.fact 46 (f := .free "enumerate") rfl),
    n_zip := He.free_ok X G (c.1.fact 47 (f := .free "zip") rfl),
    n_repr := He.free_ok X G (c.1.fact 48 (f := .free "repr") rfl),
    n_super := He.free_ok X G (c.1.fact 49 (f := .free "super") rfl),
    t_MOST_MARK := q0.choose, m_MOST_MARK := q0.choose_spec,
    t_MOST_MANY := q1.choose, m_MOST_MANY := q1.choose_spec,
    t_MOST_ROW := q2.choose, m_MOST_ROW := q2.choose_spec,
    t_MOST_LIST := q3.choose, m_MOST_LIST := q3.choose_spec,
    t_MOST_SUM := q4.choose, m_MOST_SUM := q4.choose_spec }
theorem G_InvalidNumber___init__ {P : Program} {w : World} {K : PySem.W.Frag} {mg : Str → Option Value} {base : Heap} {CX : CXT} [Sup.PF P fileS] (T : Top K mg) : FnOk P w K mg base CX 1 T.fi_InvalidNumber T.fd_InvalidNumber ["self", "value"] (Sup.sp_exc_init T.C_InvalidNumber) := Sup.fn_sup nsc_InvalidNumber (by decide +kernel) sb_InvalidNumber T.er_InvalidNumber.sup T.n_super
theorem G_InvalidMark___init__ {P : Program} {w : World} {K : PySem.W.Frag} {mg : Str → Option Value} {base : Heap} {CX : CXT} [Sup.PF P fileS] (T : Top K mg) : FnOk P w K mg base CX 1 T.fi_InvalidMark T.fd_InvalidMark ["self", "value"] (Sup.sp_exc_init T.C_InvalidMark) := Sup.fn_sup nsc_InvalidMark (by decide +kernel) sb_InvalidMark T.er_InvalidMark.sup T.n_super
end My

namespace My
open PySem PySem.Spec PyProof.Rows L2
/-! ### f(k = v, ..), nothing by position -/
theorem FunD.kbindsN {K : PySem.W.Frag} {x qual : Str} {params : Arguments} {body : List Stmt} {scope : Scope} {f : Addr} {fd : FuncData} {ps : List Str} (F : FunD K x qual params body scope [] [] f fd) (ks : List Str) (g : {α : Type} → List α → List α)
    (hrel : ∀ {zs : List V} {ws : List Value}, Vals zs ws → Vals (g zs) (g ws))
    (h : ∀ (kV doc pm : Value) (an : Option Addr) (cdv ct : Value) (ws : List Value), ws.length = ks.length → bindArgs (PySem.W.fnOf x qual params body scope .none kV doc pm an cdv ct) ⟨[], ks.zip ws⟩ = pure (ps.zip (g ws))) :
    KBn K fd ps 0 ks (fun _ ws => g ws) (fun _ zs => g zs) := by
  obtain ⟨oc, od, dV, kV, doc, pm, an, cdv, ct, osl, rfl, lk, hcd, hD, hK⟩ := F.ex
  rcases hD with ⟨_, rfl⟩ | ⟨e, _⟩
  · refine ⟨fun s us ws X l1 l2 => ?_, fun _ r => hrel r⟩
    obtain rfl : us = [] := List.eq_nil_of_length_eq_zero l1
    exact .of_eq (h kV doc pm an cdv ct ws l2)
  · exact absurd rfl e
/-- two, the other way round -/
def sw2 {α : Type} : List α → List α
  | [a, b] => [b, a]
  | l => l
theorem sw2_rel {zs : List V} {ws : List Value} (h : Vals zs ws) : Vals (sw2 zs) (sw2 ws) := by
  cases h with
  | nil => exact .nil
  | cons r1 h => cases h with
    | nil => exact .cons r1 .nil
    | cons r2 h => cases h with
      | nil => exact .cons r2 (.cons r1 .nil)
      | cons r3 h => exact .cons r1 (.cons r2 (.cons r3 h))
def tCallKO (m : Nat) (sp : Sp) (gV : List V → List V → List V) (E : XK) (tk : TA) : TE := fun σ H Q => tk σ H fun zs H2 => zs.length = m ∧ sp (gV [] zs) H2 Q E
section
variable {X : Cx} {CX : CXT} {k : Nat} {f : Addr} {fd : FuncData} {ps ks : List Str} {sp : Sp} {E : XK} {x : Str} {p pos : Pos} {kws : List Keyword} {tk : TA} {g : List Value → List Value → List Value} {gV : List V → List V → List V}
theorem pe_callKO (F : FnOk X.prog X.w X.K X.mg X.base CX k f fd ps sp) (hr : Room k X.A) (hg : Gl X x) (hm : X.mg x = some (.ref f)) (hk : PySem.W.keepIn X.K (.ref f) = true) (hb : KBn X.K fd ps 0 ks g gV) (hx : Passes CX X E)
    (hkw : PK X kws tk) (hall : (backToKw pos (keywordEach kws X.env)).all (·.1.isSome) = true := by rfl) (hks : (backToKw pos (keywordEach kws X.env)).filterMap (·.1) = ks := by rfl)
    (hdb : (x == ("__debug__" : Str)) = false := by decide)
    (hpl : ((backTo pos (starEach [] X.env)).any (·.1) || (backToKw pos (keywordEach kws X.env)).any (·.1.isNone)) = false := by rfl) :
    PE X (.Call (.Name x p) [] kws pos) (tCallKO ks.length sp gV E tk) := by
  refine ⟨fun pins s σ H Q I h => ?_⟩
  refine wpAny_Call_Name_kw (ld_glob I hg hm ?_ hdb)
  refine PySem.W.callWith_KW0 (h₀ := X.base) I.ok.mod.kin hk hall (thn (hkw.run pos pins s σ H _ I h) fun ws s2 ⟨zs, H2, I2, rz, l2, q2⟩ => ⟨I2.kIn, ?_⟩) hpl
  rw [hks]
  exact run_fnN (us := []) (vs := []) F hr hb hx I2 .nil rz rfl l2 q2
end
end My

set_option exponentiation.threshold 100000
namespace My
open PySem PySem.Spec PyProof.Rows L2 Pre
section
variable {P : Program} {w : World} {K : PySem.W.Frag} {mg : Str → Option Value} {base : Heap}
/-! ### the law's draws -/
/-- a generator: its count is at most n -/
def GenAt (H : Hp) (g : Addr) (n : Nat) : Prop := ∃ x y z : Int, H g = some (.lst [.int x, .int y, .int z]) ∧ 0 ≤ z ∧ z ≤ (n : Int)
/-- all but one thing stand as they stood -/
def But (g : Addr) (H H' : Hp) : Prop := ∀ b o, b ≠ g → H b = some o → H' b = some o
theorem But.refl {g : Addr} {H : Hp} : But g H H := fun _ _ _ h => h
theorem But.trans {g : Addr} {H H1 H2 : Hp} (a : But g H H1) (b : But g H1 H2) : But g H H2 := fun c o n h => b c o n (a c o n h)
theorem But.same {g : Addr} {H H1 H2 : Hp} (a : But g H H1) (b : Same H1 H2) : But g H H2 := fun c o n h => b c o (a c o n h)
theorem But.of {g : Addr} {H H1 : Hp} (b : Same H H1) : But g H H1 := fun c o _ h => b c o h
theorem But.upd {g : Addr} {H H1 : Hp} {o : HO} (a : But g H H1) : But g H (upd H1 g o) := fun c u n h => by
  rw [upd_ne n]
  exact a c u n h
theorem But.free {g : Addr} {H H1 : Hp} (a : But g H H1) {p : Addr} (n : p ≠ g) (h : H1 p = none) : H p = none := by
  cases e : H p with
  | none => rfl
  | some o => rw [a p o n e] at h; cases h
/-- what is changed was not there at first -/
theorem But.fresh {g : Addr} {H H1 H2 : Hp} (s : Same H H1) (n : H g = none) (b : But g H1 H2) : Same H H2 := fun c o h => b c o (ne_of_none h n) (s c o h)
theorem GenAt.mono {H : Hp} {g : Addr} {n m : Nat} (h : GenAt H g n) (l : n ≤ m) : GenAt H g m := by
  obtain ⟨x, y, z, a, b, c⟩ := h
  exact ⟨x, y, z, a, b, by omega⟩
theorem GenAt.same {H H' : Hp} {g : Addr} {n : Nat} (h : GenAt H g n) (s : Same H H') : GenAt H' g n := by
  obtain ⟨x, y, z, a, b⟩ := h
  exact ⟨x, y, z, s _ _ a, b⟩
theorem GenAt.ne {H : Hp} {g : Addr} {n : Nat} {p : Addr} (h : GenAt H g n) (np : H p = none) : p ≠ g := by
  obtain ⟨x, y, z, a, _⟩ := h
  exact (ne_of_none a np).symm
theorem small_2900 {b : Int} (h : b ≤ 2 ^ 60) : b < 2 ^ 2900 := by omega
theorem pow_pos' (w : Nat) : (0 : Int) < 2 ^ w := Int.pow_pos (by decide)
theorem pow2_le {k m : Nat} (h : k ≤ m) : (2 : Int) ^ k ≤ 2 ^ m := by
  have e := Nat.pow_le_pow_right (show 0 < 2 by decide) h
  have e2 : ((2 ^ k : Nat) : Int) ≤ ((2 ^ m : Nat) : Int) := Int.ofNat_le.mpr e
  rw [Int.natCast_pow, Int.natCast_pow] at e2
  exact e2
def sp_law_cell (K : PySem.W.Frag) : Sp := fun vs H Q _ => ∃ (a : Addr) (ns : List Int) (i : Nat), vs = [.ref a, .int i] ∧ SqL K H a (ns.map V.int) ∧ ∀ (n : Int) H', Same H H' → Q (.int n) H'
theorem cmul_mod (x m j : Int) (h0 : 0 < m) (h1 : m ≤ 2 ^ 60) : CMul (x % m) j := by
  have a := Int.emod_nonneg x (show m ≠ 0 by omega)
  have b := Int.emod_lt_of_pos x h0
  exact .inl ⟨by omega, by omega⟩
def sp_law_hash : Sp := fun vs H Q _ => ∃ i j : Int, vs = [.int i, .int j] ∧ 0 ≤ j ∧ j < 2 ^ 60 ∧ ∀ n : Int, Q (.int n) H

def sp_law_generator (K : PySem.W.Frag) : Sp := fun vs H Q _ => ∃ (a : Addr) (ns : List Int) (i : Nat), vs = [.ref a, .int i] ∧ SqL K H a (ns.map V.int) ∧ ∀ H' g, Same H H' → H g = none → GenAt H' g (1000 * i) → Q (.ref g) H'
def sp_law_random : Sp := fun vs H Q _ => ∃ (g : Addr) (b : Int) (n : Nat), vs = [.ref g, .int b] ∧ GenAt H g n ∧ n ≤ 10 ^ 12 ∧ 0 < b ∧ b < 2 ^ 2900 ∧ ∀ (d : Int) H', 0 ≤ d → d < b → GenAt H' g (n + 100) → But g H H' → Q (.int d) H'
/-- a comprehension over a range that draws whole numbers -/
theorem lc_drawR {lo : Int} {n : Nat} {j : Nat} {te : TE} {vs : List Nat} {σ : L2.St} {H1 : Hp} {D : Addr} {Qd : Hp → Prop} (g : Addr) (m step : Nat) (P : Int → Prop) (nD : H1 D = none) (hG : GenAt H1 g m) (hz : n < sizeLine)
    (hw : ∀ x, wipe ((wipe σ vs).set j (some x)) vs = wipe σ vs)
    (hs : ∀ (i : Nat) (H' : Hp), i < n → But g H1 H' → GenAt H' g (m + step * i) → ∀ Qt : V → Hp → Prop, (∀ (y : Int) H'', P y → But g H' H'' → GenAt H'' g (m + step * (i + 1)) → Qt (.int y) H'') → te ((wipe σ vs).set j (some (.int (lo + (i : Int))))) H' Qt)
    (hd : ∀ H' (ys : List Int), But g H1 H' → GenAt H' g (m + step * n) → H' D = some (.lst (ys.map V.int)) → ys.length = n → (∀ y ∈ ys, P y) → Qd H') :
    ∃ W : Nat → Nat → Hp → Prop, (∃ m, W 0 m (upd H1 D (.lst []))) ∧ ∀ i m H, W i m H →
      ((Itr lo n).stop i H ∧ Qd H) ∨ ((Itr lo n).go i H ∧ ∃ Nx : Hp → Prop, (∀ H', Nx H' → ∃ m', m' < m ∧ W (i + 1) m' H') ∧ ∀ x H', (Itr lo n).yld i H x H' → gName j x (wipe σ vs) H' fun σ2 H2 => wipe σ2 vs = wipe σ vs ∧ tYes σ2 H2 fun b H3 =>
        if b = true then te σ2 H3 fun y H4 => ∃ acc, H4 D = some (.lst acc) ∧ acc.length < sizeLine ∧ Nx (upd H4 D (.lst (acc ++ [y]))) else Nx H3) := by
  have nDg : D ≠ g := hG.ne nD
  refine lc_range (lo := lo) (n := n) (fun i H => ∃ ys : List Int, But g H1 H ∧ GenAt H g (m + step * i) ∧ H D = some (.lst (ys.map V.int)) ∧ ys.length = i ∧ ∀ y ∈ ys, P y)
    ⟨[], But.of (same_upd nD), hG.same (same_upd nD), upd_same, rfl, (fun _ h => nomatch h)⟩ ?_ ?_
  · rintro i H hi ⟨ys, b, hg, hD, hl, hP⟩
    refine ⟨hw _, ?_⟩
    unfold tYes
    dsimp only
    rw [if_pos (show true = true from rfl)]
    refine hs i H hi b hg _ fun y H2 py b2 hg2 => ?_
    refine ⟨_, b2 _ _ nDg hD, by rw [List.length_map]; omega, ys ++ [y], ?_, ?_, ?_, ?_, ?_⟩
    · intro c o nc hc
      rw [upd_ne (ne_of_none hc nD)]
      exact b2 _ _ nc (b _ _ nc hc)
    · obtain ⟨x1, x2, x3, e1, e2⟩ := hg2
      exact ⟨x1, x2, x3, by rw [upd_ne nDg.symm]; exact e1, e2⟩
    · rw [upd_same, List.map_append]
      rfl
    · rw [List.length_append, hl]
      rfl
    · intro z hz
      rcases List.mem_append.mp hz with hz | hz
      · exact hP z hz
      · rw [List.mem_singleton.mp hz]
        exact py
  · rintro H ⟨ys, b, hg, hD, hl, hP⟩
    exact hd H ys b hg hD hl hP
end
end My

namespace My
open PySem PySem.Spec PyProof.Rows L2 Pre
/-- a comprehension over a list that makes new things: R tells what is known of the i-th -/
theorem lc_relL {K : PySem.W.Frag} {a : Addr} {xs : List V} {j : Nat} {te : TE} {vs : List Nat} {σ : L2.St} {H1 : Hp} {D : Addr} {Qd : Hp → Prop} (R : Nat → V → Hp → Prop) (nD : H1 D = none) (hS : SqL K H1 a xs) (hz : xs.length < sizeLine)
    (mono : ∀ (i : Nat) (y : V) (H H' : Hp), Pre.Off D H H' → R i y H → R i y H') (hw : ∀ x, wipe ((wipe σ vs).set j (some x)) vs = wipe σ vs)
    (hs : ∀ (i : Nat) (x : V) (H' : Hp) (zs : List V), xs[i]? = some x → Same H1 H' → H' D = some (.lst zs) → ∀ Qt : V → Hp → Prop, (∀ y H'', Same H' H'' → R i y H'' → Qt y H'') → te ((wipe σ vs).set j (some x)) H' Qt)
    (hd : ∀ H' ys, Same H1 H' → H' D = some (.lst ys) → ys.length = xs.length → (∀ (i : Nat) (y : V), ys[i]? = some y → R i y H') → Qd H') :
    ∃ W : Nat → Nat → Hp → Prop, (∃ m, W 0 m (upd H1 D (.lst []))) ∧ ∀ i m H, W i m H →
      ((Itl K a).stop i H ∧ Qd H) ∨ ((Itl K a).go i H ∧ ∃ Nx : Hp → Prop, (∀ H', Nx H' → ∃ m', m' < m ∧ W (i + 1) m' H') ∧ ∀ x H', (Itl K a).yld i H x H' → gName j x (wipe σ vs) H' fun σ2 H2 => wipe σ2 vs = wipe σ vs ∧ tYes σ2 H2 fun b H3 =>
        if b = true then te σ2 H3 fun y H4 => ∃ acc, H4 D = some (.lst acc) ∧ acc.length < sizeLine ∧ Nx (upd H4 D (.lst (acc ++ [y]))) else Nx H3) := by
  refine lc_list (K := K) (a := a) (xs := xs) (RelPv R H1 D) ⟨[], same_upd nD, upd_same, rfl, fun k y h => by simp at h⟩ (fun i H _ ⟨_, s, _⟩ => s.seq hS) ?_ ?_
  · rintro i x H hx ⟨ys, s, hD, hl, hR⟩
    have hi : i < xs.length := (List.getElem?_eq_some_iff.mp hx).1
    refine ⟨hw _, ?_⟩
    unfold tYes
    dsimp only
    rw [if_pos (show true = true from rfl)]
    refine hs i x H ys hx s hD _ fun y H4 s4 r4 => ?_
    refine ⟨ys, s4 _ _ hD, by omega, ys ++ [y], same_over nD (s.trans s4), upd_same, by rw [List.length_append, hl]; rfl, fun k z hz => ?_⟩
    have off : Pre.Off D H4 (upd H4 D (.lst (ys ++ [y]))) := fun b o nb h => by rw [upd_ne nb]; exact h
    by_cases hk : k < ys.length
    · rw [List.getElem?_append_left hk] at hz
      exact mono k z H _ (fun b o nb h => off b o nb (s4 b o h)) (hR k z hz)
    · rw [List.getElem?_append_right (by omega)] at hz
      have hk2 : k - ys.length = 0 := by
        have h2 := (List.getElem?_eq_some_iff.mp hz).1
        rw [List.length_singleton] at h2
        omega
      rw [hk2] at hz
      cases hz
      have ek : k = i := by omega
      rw [ek]
      exact mono i y H4 _ off r4
  · rintro H ⟨ys, s, hD, hl, hR⟩
    exact hd H ys s hD hl hR
/-- a list of lists of whole numbers -/
def RowsIn (H : Hp) (p : Addr) (rows : List (List Int)) : Prop := ∃ as : List Addr, H p = some (.lst (as.map V.ref)) ∧ as.length = rows.length ∧ ∀ (i : Nat) (a : Addr) (r : List Int), as[i]? = some a → rows[i]? = some r → H a = some (.lst (r.map V.int))
theorem RowsIn.same {H H' : Hp} {p : Addr} {rows : List (List Int)} (h : RowsIn H p rows) (s : Same H H') : RowsIn H' p rows := by
  obtain ⟨as, h1, h2, h3⟩ := h
  exact ⟨as, s _ _ h1, h2, fun i a r ha hr => s _ _ (h3 i a r ha hr)⟩
section
variable {X : Cx}
theorem huD {k : Nat} {A : Around} (r : Room k A) : A.units + 65 < cLine := by have := r.un; omega
theorem k_inD (K : PySem.W.Frag) (h : X.K = K) (hu : X.A.units + 65 < cLine) : OpR X (compareOp .In) (rInD K) := by subst h; exact op_inD hu
theorem k_notInD (K : PySem.W.Frag) (h : X.K = K) (hu : X.A.units + 65 < cLine) : OpR X (compareOp .NotIn) (rNotInD K) := by subst h; exact op_notInD hu
theorem k_indexD (K : PySem.W.Frag) (h : X.K = K) (hu : X.A.units + 65 < cLine) : MtR X "list.index" (rIndexD K) := by subst h; exact mt_indexD hu
end
/-- rows as data -/
def rowD (r : List Int) : PyData := .list (r.map PyData.int)
theorem rows_dp {K : PySem.W.Frag} {H : Hp} : ∀ {as : List Addr} {rows : List (List Int)}, as.length = rows.length → (∀ (i : Nat) (a : Addr) (r : List Int), as[i]? = some a → rows[i]? = some r → H a = some (.lst (r.map V.int))) → DpAll K H (as.map V.ref) (rows.map rowD)
  | [], [], _, _ => .nil
  | [], _ :: _, h, _ => by simp at h
  | _ :: _, [], h, _ => by simp at h
  | a :: as, r :: rows, h, k => .cons (.lst (.inl (.inl (k 0 a r rfl rfl))) (Pre.dp_ints r)) (rows_dp (by simpa using h) fun i t q ht hq => k (i + 1) t q (by simpa using ht) (by simpa using hq))
theorem rowD_eqv (r q : List Int) : PyData.eqv (rowD r) (rowD q) = decide (r = q) := by
  unfold rowD
  rw [PyData.eqv, eqv_ints]
theorem rows_shaped (rows : List (List Int)) : SeqAt.shaped (.list (rows.map rowD)) = true := by
  have h1 : ∀ l : List (List Int), PyData.canLayAll0 (l.map rowD) = true := fun l => by
    induction l with
    | nil => rfl
    | cons r l ih =>
      show (PyData.canLay0 (rowD r) && PyData.canLayAll0 (l.map rowD)) = true
      rw [ih]
      unfold rowD
      rw [PyData.canLay0, lay_ints]
      rfl
  have h2 : ∀ l : List (List Int), PyData.depthAll (l.map rowD) ≤ 1 := fun l => by
    induction l with
    | nil => simp [PyData.depthAll]
    | cons r l ih =>
      show PyData.depthAll (rowD r :: l.map rowD) ≤ 1
      rw [PyData.depthAll]
      unfold rowD at *
      rw [PyData.depth, depth_ints]
      omega
  show (PyData.canLay0 (.list (rows.map rowD)) && decide (PyData.depth (.list (rows.map rowD)) ≤ 64)) = true
  rw [Bool.and_eq_true]
  have := h2 rows
  exact ⟨by rw [PyData.canLay0]; exact h1 rows, decide_eq_true (by rw [PyData.depth]; omega)⟩
end My

namespace My
open PySem PySem.Spec PyProof.Rows L2 Pre
/-! ### min and max of a list of pairs of whole numbers -/
def pairD (p : Int × Int) : PyData := .tuple [.int p.1, .int p.2]
def ltP2 (p q : Int × Int) : Prop := p.1 < q.1 ∨ (p.1 = q.1 ∧ p.2 < q.2)
instance (p q : Int × Int) : Decidable (ltP2 p q) := by unfold ltP2; infer_instance
theorem pair_lt (p q : Int × Int) : PySem.W.dataLt (pairD p) (pairD q) = decide (ltP2 p q) := PySem.W.dataLt_ii p.1 p.2 q.1 q.2
theorem ltP2_trans {p q r : Int × Int} (h : ¬ ltP2 q p) (k : ¬ ltP2 r q) : ¬ ltP2 r p := by
  unfold ltP2 at *
  omega
def minP (p : Int × Int) (ps : List (Int × Int)) : Int × Int := ps.foldl (fun a y => if ltP2 y a then y else a) p
def maxP (p : Int × Int) (ps : List (Int × Int)) : Int × Int := ps.foldl (fun a y => if ltP2 a y then y else a) p
theorem minP_data : ∀ (ps : List (Int × Int)) (p : Int × Int), PySem.W.minD (pairD p) (ps.map pairD) = pairD (minP p ps)
  | [], _ => rfl
  | q :: ps, p => by
    show PySem.W.minD (if PySem.W.dataLt (pairD q) (pairD p) = true then pairD q else pairD p) (ps.map pairD) = pairD (minP (if ltP2 q p then q else p) ps)
    rw [pair_lt]
    by_cases h : ltP2 q p
    · rw [decide_eq_true h, if_pos rfl, if_pos h, minP_data ps q]
    · rw [decide_eq_false h, if_neg (by decide), if_neg h, minP_data ps p]
theorem maxP_data : ∀ (ps : List (Int × Int)) (p : Int × Int), PySem.W.maxD (pairD p) (ps.map pairD) = pairD (maxP p ps)
  | [], _ => rfl
  | q :: ps, p => by
    show PySem.W.maxD (if PySem.W.dataLt (pairD p) (pairD q) = true then pairD q else pairD p) (ps.map pairD) = pairD (maxP (if ltP2 p q then q else p) ps)
    rw [pair_lt]
    by_cases h : ltP2 p q
    · rw [decide_eq_true h, if_pos rfl, if_pos h, maxP_data ps q]
    · rw [decide_eq_false h, if_neg (by decide), if_neg h, maxP_data ps p]
theorem minP_spec : ∀ (ps : List (Int × Int)) (p : Int × Int), minP p ps ∈ p :: ps ∧ ∀ q ∈ p :: ps, ¬ ltP2 q (minP p ps)
  | [], p => ⟨List.mem_cons_self, fun q hq => by
      rw [List.mem_singleton.mp hq]
      show ¬ ltP2 p p
      unfold ltP2
      omega⟩
  | r :: ps, p => by
    show minP (if ltP2 r p then r else p) ps ∈ _ ∧ ∀ q ∈ p :: r :: ps, ¬ ltP2 q (minP (if ltP2 r p then r else p) ps)
    by_cases h : ltP2 r p
    · rw [if_pos h]
      obtain ⟨h1, h2⟩ := minP_spec ps r
      refine ⟨List.mem_cons_of_mem _ h1, fun q hq => ?_⟩
      rcases List.mem_cons.mp hq with rfl | hq
      · have := h2 r List.mem_cons_self
        exact fun z => this (by unfold ltP2 at *; omega)
      · exact h2 q hq
    · rw [if_neg h]
      obtain ⟨h1, h2⟩ := minP_spec ps p
      refine ⟨?_, fun q hq => ?_⟩
      · rcases List.mem_cons.mp h1 with e | e
        · rw [e]; exact List.mem_cons_self
        · exact List.mem_cons_of_mem _ (List.mem_cons_of_mem _ e)
      · rcases List.mem_cons.mp hq with rfl | hq
        · exact h2 q List.mem_cons_self
        · rcases List.mem_cons.mp hq with rfl | hq
          · have := h2 p List.mem_cons_self
            exact fun z => this (by unfold ltP2 at *; omega)
          · exact h2 q (List.mem_cons_of_mem _ hq)
theorem maxP_spec : ∀ (ps : List (Int × Int)) (p : Int × Int), maxP p ps ∈ p :: ps ∧ ∀ q ∈ p :: ps, ¬ ltP2 (maxP p ps) q
  | [], p => ⟨List.mem_cons_self, fun q hq => by
      rw [List.mem_singleton.mp hq]
      show ¬ ltP2 p p
      unfold ltP2
      omega⟩
  | r :: ps, p => by
    show maxP (if ltP2 p r then r else p) ps ∈ _ ∧ ∀ q ∈ p :: r :: ps, ¬ ltP2 (maxP (if ltP2 p r then r else p) ps) q
    by_cases h : ltP2 p r
    · rw [if_pos h]
      obtain ⟨h1, h2⟩ := maxP_spec ps r
      refine ⟨List.mem_cons_of_mem _ h1, fun q hq => ?_⟩
      rcases List.mem_cons.mp hq with rfl | hq
      · have := h2 r List.mem_cons_self
        exact fun z => this (by unfold ltP2 at *; omega)
      · exact h2 q hq
    · rw [if_neg h]
      obtain ⟨h1, h2⟩ := maxP_spec ps p
      refine ⟨?_, fun q hq => ?_⟩
      · rcases List.mem_cons.mp h1 with e | e
        · rw [e]; exact List.mem_cons_self
        · exact List.mem_cons_of_mem _ (List.mem_cons_of_mem _ e)
      · rcases List.mem_cons.mp hq with rfl | hq
        · exact h2 q List.mem_cons_self
        · rcases List.mem_cons.mp hq with rfl | hq
          · have := h2 p List.mem_cons_self
            exact fun z => this (by unfold ltP2 at *; omega)
          · exact h2 q (List.mem_cons_of_mem _ hq)
theorem pairs_alike (ps : List (Int × Int)) : PySem.W.AlikeAll (ps.map pairD) := by
  refine ⟨fun x hx y hy => ?_, fun x hx => ?_⟩
  · obtain ⟨p, _, rfl⟩ := List.mem_map.mp hx
    obtain ⟨q, _, rfl⟩ := List.mem_map.mp hy
    rfl
  · obtain ⟨p, _, rfl⟩ := List.mem_map.mp hx
    exact fun z => nomatch z
theorem pairs_lay : ∀ ps : List (Int × Int), PyData.canLayAll0 (ps.map pairD) = true
  | [] => rfl
  | p :: ps => by simp [PyData.canLayAll0, PyData.canLay0, pairD, pairs_lay ps]
theorem pairs_depth : ∀ ps : List (Int × Int), PyData.depthAll (ps.map pairD) ≤ 2
  | [] => by simp [PyData.depthAll]
  | p :: ps => by
    have := pairs_depth ps
    simp only [List.map_cons, PyData.depthAll, pairD, PyData.depth]
    omega
/-- a list of pairs, at a -/
def PairsAt (K : PySem.W.Frag) (H : Hp) (a : Addr) (ps : List (Int × Int)) : Prop := ∃ as : List Addr, SqL K H a (as.map V.ref) ∧ as.length = ps.length ∧ ∀ (i : Nat) (t : Addr) (p : Int × Int), as[i]? = some t → ps[i]? = some p → SqT K H t [.int p.1, .int p.2]
theorem pairs_dp {K : PySem.W.Frag} {H : Hp} : ∀ {as : List Addr} {ps : List (Int × Int)}, as.length = ps.length → (∀ (i : Nat) (t : Addr) (p : Int × Int), as[i]? = some t → ps[i]? = some p → SqT K H t [.int p.1, .int p.2]) → DpAll K H (as.map V.ref) (ps.map pairD)
  | [], [], _, _ => .nil
  | [], _ :: _, h, _ => by simp at h
  | _ :: _, [], h, _ => by simp at h
  | a :: as, p :: ps, h, k => .cons (.tup (k 0 a p rfl rfl) (.cons (.int _) (.cons (.int _) .nil))) (pairs_dp (by simpa using h) fun i t q ht hq => k (i + 1) t q (by simpa using ht) (by simpa using hq))
def rMnP (K : PySem.W.Frag) (best : Int × Int → List (Int × Int) → Int × Int) : List V → Hp → VK → Prop := fun xs H Q => ∃ (a : Addr) (p : Int × Int) (ps : List (Int × Int)), xs = [.ref a] ∧ PairsAt K H a (p :: ps) ∧ ∀ t, SqT K H t [.int (best p ps).1, .int (best p ps).2] → Q (.ref t) H
section
variable {X : Cx} {K : PySem.W.Frag}
theorem pick {H : Hp} {s : Shared} {as : List Addr} {ps : List (Int × Int)} {its : List Value} {i : Nat} {v : Value} {h' : Heap} {bs cs : List Addr} {b : Int × Int} (hl : as.length = ps.length)
    (hT : ∀ (i : Nat) (t : Addr) (p : Int × Int), as[i]? = some t → ps[i]? = some p → SqT K H t [.int p.1, .int p.2]) (rv : Vals (as.map V.ref) its) (hr : ReadsAll s.heap its (ps.map pairD) cs) (hv : its.toArray[i]? = some v) (rd : Reads h' v (pairD b) bs)
    (hk : ∀ b o, s.heap.get? b = some o → h'.get? b = some o) : ∃ t, v = .ref t ∧ SqT K H t [.int b.1, .int b.2] := by
  have hv' : its[i]? = some v := by simpa using hv
  have hil : i < its.length := (List.getElem?_eq_some_iff.mp hv').1
  have hvl := rv.length
  rw [List.length_map] at hvl
  obtain ⟨u, hu, ru⟩ := rv.get (show (as.map V.ref)[i]? = some (.ref (as[i]'(by omega))) by rw [List.getElem?_map, List.getElem?_eq_getElem (by omega)]; rfl)
  rw [hv'] at hu
  cases hu
  have hp : ps[i]? = some (ps[i]'(by omega)) := List.getElem?_eq_getElem (by omega)
  obtain ⟨ds, r1, _, _, _⟩ := PySem.W.readsAll_at hr i v hv'
  have e1 : (ps.map pairD).getD i .none = pairD (ps[i]'(by omega)) := by
    rw [List.getD_eq_getElem?_getD, List.getElem?_map, hp]
    rfl
  rw [e1] at r1
  have e2 := PySem.SeqAt.Reads.unique (pairD b) _ v _ _ (by simp [pairD, PyData.canLay0, PyData.canLayAll0]) rd (Reads.keeps hk r1)
  have e3 : b = ps[i]'(by omega) := by
    unfold pairD at e2
    injection e2 with e2
    injection e2 with e4 e5
    injection e5 with e5 _
    injection e4 with e4
    injection e5 with e5
    exact Prod.ext e4 e5
  refine ⟨as[i]'(by omega), ru, ?_⟩
  rw [e3]
  exact hT i _ _ (List.getElem?_eq_getElem (by omega)) hp
theorem k_minP (K : PySem.W.Frag) (h : X.K = K) (hc : X.calm = true) (hu : X.A.units + 65 < cLine) : CallR X (.builtin "min") (rMnP K minP) := by
  subst h
  intro pins s σ H xs us Q I r h
  obtain ⟨a, p, ps, rfl, ⟨as, hS, hl, hT⟩, q⟩ := h
  obtain ⟨its, rv, hL, _⟩ := I.list hS
  rw [Vals.ref1 r]
  obtain ⟨cs, hr⟩ := Dp.readsAll I _ _ its (pairs_dp hl hT) rv
  have hd := pairs_depth (p :: ps)
  refine PySem.W.min_list_data (I.ok.hd hc) hL.isList (show ReadsAll s.heap its.toArray.toList (pairD p :: ps.map pairD) cs by simpa using hr) (pairs_alike (p :: ps)) (by rw [List.map_cons] at hd; omega) fun i v h' tk bs hv rd hk => ?_
  rw [minP_data] at rd
  obtain ⟨t, rfl, ht⟩ := pick hl hT rv hr hv rd hk
  exact ⟨.ref t, H, I.kept hk, rfl, q t ht⟩
theorem k_maxP (K : PySem.W.Frag) (h : X.K = K) (hc : X.calm = true) (hu : X.A.units + 65 < cLine) : CallR X (.builtin "max") (rMnP K maxP) := by
  subst h
  intro pins s σ H xs us Q I r h
  obtain ⟨a, p, ps, rfl, ⟨as, hS, hl, hT⟩, q⟩ := h
  obtain ⟨its, rv, hL, _⟩ := I.list hS
  rw [Vals.ref1 r]
  obtain ⟨cs, hr⟩ := Dp.readsAll I _ _ its (pairs_dp hl hT) rv
  have hd := pairs_depth (p :: ps)
  refine PySem.W.max_list_data (I.ok.hd hc) hL.isList (show ReadsAll s.heap its.toArray.toList (pairD p :: ps.map pairD) cs by simpa using hr) (pairs_alike (p :: ps)) (by rw [List.map_cons] at hd; omega) fun i v h' tk bs hv rd hk => ?_
  rw [maxP_data] at rd
  obtain ⟨t, rfl, ht⟩ := pick hl hT rv hr hv rd hk
  exact ⟨.ref t, H, I.kept hk, rfl, q t ht⟩
theorem huM {k : Nat} {A : Around} (r : Room k A) : A.units + 65 < cLine := by have := r.un; omega
end
end My

namespace My
open PySem PySem.Spec PyProof.Rows L2 Pre
/-! ### data in a heap: what is told of a value by lists and tuples that stand there (none of them frozen) -/
mutual
inductive Dt (H : Hp) : V → PyData → Prop
  | non : Dt H .non .none
  | bl (b : Bool) : Dt H (.bl b) (.bool b)
  | int (n : Int) : Dt H (.int n) (.int n)
  | str (x : Str) : Dt H (.str x) (.str x)
  | lst {a : Addr} {xs : List V} {ds : List PyData} : H a = some (.lst xs) → DtA H xs ds → Dt H (.ref a) (.list ds)
  | tup {a : Addr} {xs : List V} {ds : List PyData} : H a = some (.tup xs) → DtA H xs ds → Dt H (.ref a) (.tuple ds)
inductive DtA (H : Hp) : List V → List PyData → Prop
  | nil : DtA H [] []
  | cons {v : V} {vs : List V} {d : PyData} {ds : List PyData} : Dt H v d → DtA H vs ds → DtA H (v :: vs) (d :: ds)
end
mutual
theorem Dt.same {H H' : Hp} (s : Same H H') : ∀ {d : PyData} {v : V}, Dt H v d → Dt H' v d
  | .none, _, h => by cases h; exact .non
  | .bool _, _, h => by cases h; exact .bl _
  | .int _, _, h => by cases h; exact .int _
  | .str _, _, h => by cases h; exact .str _
  | .list _, _, h => by cases h with | lst a b => exact .lst (s _ _ a) (DtA.same s b)
  | .tuple _, _, h => by cases h with | tup a b => exact .tup (s _ _ a) (DtA.same s b)
  | .dict _, _, h => nomatch h
theorem DtA.same {H H' : Hp} (s : Same H H') : ∀ {ds : List PyData} {vs : List V}, DtA H vs ds → DtA H' vs ds
  | [], _, h => by cases h; exact .nil
  | _ :: _, _, h => by cases h with | cons a b => exact .cons (Dt.same s a) (DtA.same s b)
end
mutual
theorem Dt.dp {K : PySem.W.Frag} {H : Hp} : ∀ {d : PyData} {v : V}, Dt H v d → Dp K H v d
  | .none, _, h => by cases h; exact .non
  | .bool _, _, h => by cases h; exact .bl _
  | .int _, _, h => by cases h; exact .int _
  | .str _, _, h => by cases h; exact .str _
  | .list _, _, h => by cases h with | lst a b => exact .lst (.inl (.inl a)) (DtA.dp b)
  | .tuple _, _, h => by cases h with | tup a b => exact .tup (.inl (.inl a)) (DtA.dp b)
  | .dict _, _, h => nomatch h
theorem DtA.dp {K : PySem.W.Frag} {H : Hp} : ∀ {ds : List PyData} {vs : List V}, DtA H vs ds → DpAll K H vs ds
  | [], _, h => by cases h; exact .nil
  | _ :: _, _, h => by cases h with | cons a b => exact .cons (Dt.dp a) (DtA.dp b)
end
theorem DtA.len {H : Hp} : ∀ {ds : List PyData} {vs : List V}, DtA H vs ds → vs.length = ds.length
  | [], _, h => by cases h; rfl
  | _ :: _, _, h => by cases h with | cons a b => rw [List.length_cons, List.length_cons, DtA.len b]
theorem DtA.app {H : Hp} : ∀ {ds : List PyData} {vs : List V} {es : List PyData} {us : List V}, DtA H vs ds → DtA H us es → DtA H (vs ++ us) (ds ++ es)
  | [], _, _, _, h, k => by cases h; exact k
  | _ :: _, _, _, _, h, k => by cases h with | cons a b => exact .cons a (DtA.app b k)
theorem DtA.get {H : Hp} : ∀ {ds : List PyData} {vs : List V} {i : Nat} {d : PyData}, DtA H vs ds → ds[i]? = some d → ∃ v, vs[i]? = some v ∧ Dt H v d
  | [], _, _, _, _, k => by simp at k
  | _ :: _, _, 0, _, h, k => by
    cases h with
    | cons a b => rw [List.getElem?_cons_zero] at k; cases k; exact ⟨_, rfl, a⟩
  | _ :: _, _, i + 1, _, h, k => by
    cases h with
    | cons a b => rw [List.getElem?_cons_succ] at k; rw [List.getElem?_cons_succ]; exact DtA.get b k
theorem DtA.got {H : Hp} {ds : List PyData} {vs : List V} {i : Nat} {v : V} (h : DtA H vs ds) (k : vs[i]? = some v) : ∃ d, ds[i]? = some d ∧ Dt H v d := by
  have hi := (List.getElem?_eq_some_iff.mp k).1
  have hl := h.len
  obtain ⟨u, hu, d⟩ := h.get (List.getElem?_eq_getElem (show i < ds.length by omega))
  rw [k] at hu
  cases hu
  exact ⟨_, List.getElem?_eq_getElem (by omega), d⟩
theorem DtA.take {H : Hp} : ∀ {ds : List PyData} {vs : List V} (n : Nat), DtA H vs ds → DtA H (vs.take n) (ds.take n)
  | _, _, 0, _ => .nil
  | [], _, _ + 1, h => by cases h; exact .nil
  | _ :: _, _, n + 1, h => by cases h with | cons a b => exact .cons a (DtA.take n b)
theorem DtA.drop {H : Hp} : ∀ {ds : List PyData} {vs : List V} (n : Nat), DtA H vs ds → DtA H (vs.drop n) (ds.drop n)
  | _, _, 0, h => h
  | [], _, _ + 1, h => by cases h; exact .nil
  | _ :: _, _, n + 1, h => by cases h with | cons a b => exact DtA.drop n b
theorem DtA.rev {H : Hp} : ∀ {ds : List PyData} {vs : List V}, DtA H vs ds → DtA H vs.reverse ds.reverse
  | [], _, h => by cases h; exact .nil
  | _ :: _, _, h => by
    cases h with
    | cons a b => rw [List.reverse_cons, List.reverse_cons]; exact DtA.app (DtA.rev b) (.cons a .nil)
theorem DtA.ints {H : Hp} : ∀ ns : List Int, DtA H (ns.map V.int) (ns.map PyData.int)
  | [] => .nil
  | n :: r => .cons (.int n) (DtA.ints r)
theorem DtA.intsE {H : Hp} : ∀ {ns : List Int} {vs : List V}, DtA H vs (ns.map PyData.int) → vs = ns.map V.int
  | [], _, h => by cases h; rfl
  | n :: r, _, h => by
    cases h with
    | cons a b => cases a; rw [DtA.intsE b]; rfl
/-- a list of whole numbers -/
theorem Dt.ints {H : Hp} {a : Addr} {ns : List Int} (h : H a = some (.lst (ns.map V.int))) : Dt H (.ref a) (rowD ns) := .lst h (DtA.ints ns)
theorem Dt.intsE {H : Hp} {v : V} {ns : List Int} (h : Dt H v (rowD ns)) : ∃ a, v = .ref a ∧ H a = some (.lst (ns.map V.int)) := by
  unfold rowD at h
  cases h with
  | lst a b => rw [DtA.intsE b] at a; exact ⟨_, rfl, a⟩
theorem Dt.listE {H : Hp} {v : V} {ds : List PyData} (h : Dt H v (.list ds)) : ∃ a xs, v = .ref a ∧ H a = some (.lst xs) ∧ DtA H xs ds := by
  cases h with
  | lst a b => exact ⟨_, _, rfl, a, b⟩
theorem Dt.tupE {H : Hp} {v : V} {ds : List PyData} (h : Dt H v (.tuple ds)) : ∃ a xs, v = .ref a ∧ H a = some (.tup xs) ∧ DtA H xs ds := by
  cases h with
  | tup a b => exact ⟨_, _, rfl, a, b⟩
/-! ### what is owned (and changes) is left out -/
def rs (S : List Addr) (H : Hp) : Hp := fun a => if a ∈ S then none else H a
theorem rs_nil (H : Hp) : rs [] H = H := by funext a; simp [rs]
theorem rs_in {S : List Addr} {H : Hp} {a : Addr} (h : a ∈ S) : rs S H a = none := if_pos h
theorem rs_out {S : List Addr} {H : Hp} {a : Addr} (h : a ∉ S) : rs S H a = H a := if_neg h
theorem rs_some {S : List Addr} {H : Hp} {a : Addr} {o : HO} (h : rs S H a = some o) : a ∉ S ∧ H a = some o := by
  by_cases m : a ∈ S
  · rw [rs_in m] at h; cases h
  · rw [rs_out m] at h; exact ⟨m, h⟩
theorem rs_le {S : List Addr} {H : Hp} : Same (rs S H) H := fun _ _ h => (rs_some h).2
theorem rs_same {S : List Addr} {H H' : Hp} (s : Same H H') : Same (rs S H) (rs S H') := fun b o h => by
  obtain ⟨m, e⟩ := rs_some h
  rw [rs_out m]
  exact s b o e
theorem rs_upd {S : List Addr} {H : Hp} {p : Addr} {o : HO} (h : p ∈ S) : rs S (L2.upd H p o) = rs S H := by
  funext a
  by_cases m : a ∈ S
  · rw [rs_in m, rs_in m]
  · rw [rs_out m, rs_out m, upd_ne (fun e => m (by rw [e]; exact h))]
/-- all of them stand -/
def Has (S : List Addr) (H : Hp) : Prop := ∀ a ∈ S, ∃ o, H a = some o
theorem Has.nil {H : Hp} : Has [] H := fun _ h => nomatch h
theorem Has.same {S : List Addr} {H H' : Hp} (h : Has S H) (s : Same H H') : Has S H' := fun a m => by
  obtain ⟨o, e⟩ := h a m
  exact ⟨o, s a o e⟩
theorem Has.cons {S : List Addr} {H : Hp} {p : Addr} {o : HO} (h : Has S H) (e : H p = some o) : Has (p :: S) H := fun a m => by
  rcases List.mem_cons.mp m with rfl | m
  · exact ⟨o, e⟩
  · exact h a m
theorem Has.upd {S : List Addr} {H : Hp} {p : Addr} {o : HO} (h : Has S H) : Has S (L2.upd H p o) := fun a m => by
  by_cases e : a = p
  · subst e; exact ⟨o, upd_same⟩
  · rw [upd_ne e]; exact h a m
theorem Has.out {S : List Addr} {H : Hp} {p : Addr} (h : Has S H) (n : H p = none) : p ∉ S := fun m => by
  obtain ⟨o, e⟩ := h p m
  rw [n] at e
  cases e
theorem GenAt.has {H : Hp} {g : Addr} {n : Nat} (h : GenAt H g n) : Has [g] H := by
  obtain ⟨x, y, z, e, _⟩ := h
  exact Has.nil.cons e
/-- all but what is owned stays -/
def Sta (S : List Addr) (H H' : Hp) : Prop := Same (rs S H) (rs S H')
theorem Sta.of {S : List Addr} {H H' : Hp} (s : Same H H') : Sta S H H' := rs_same s
theorem Sta.trans {S : List Addr} {H H1 H2 : Hp} (a : Sta S H H1) (b : Sta S H1 H2) : Sta S H H2 := fun c o h => b c o (a c o h)
theorem Sta.at_ {S : List Addr} {H H' : Hp} (s : Sta S H H') {a : Addr} {o : HO} (m : a ∉ S) (h : H a = some o) : H' a = some o := (rs_some (s a o (by rw [rs_out m]; exact h))).2
theorem Sta.upd {S : List Addr} {H : Hp} {p : Addr} {o : HO} (h : p ∈ S) : Sta S H (L2.upd H p o) := fun c u e => by rw [rs_upd h]; exact e
theorem Sta.more {S : List Addr} {H H' : Hp} {p : Addr} (s : Sta S H H') : Sta (p :: S) H H' := fun c o h => by
  obtain ⟨m, e⟩ := rs_some h
  have m2 : c ∉ S := fun z => m (List.mem_cons_of_mem _ z)
  rw [rs_out m]
  exact s.at_ m2 e
theorem But.sta {g : Addr} {H H' : Hp} (b : But g H H') : Sta [g] H H' := fun c o h => by
  obtain ⟨m, e⟩ := rs_some h
  rw [rs_out m]
  exact b c o (fun z => m (by rw [z]; exact List.mem_cons_self)) e
/-- what was there ahead of a new thing does not speak of it -/
theorem under {S : List Addr} {H H' : Hp} {p : Addr} (n : H p = none) (s : Same H H') : Same (rs S H) (rs (p :: S) H') := fun c o h => by
  obtain ⟨m, e⟩ := rs_some h
  rw [rs_out (fun z => by
    rcases List.mem_cons.mp z with rfl | z
    · rw [n] at e; cases e
    · exact m z)]
  exact s c o e
theorem over {S : List Addr} {H : Hp} {p : Addr} : Same (rs (p :: S) H) (rs S H) := fun c o h => by
  obtain ⟨m, e⟩ := rs_some h
  rw [rs_out (fun z => m (List.mem_cons_of_mem _ z))]
  exact e
/-! ### a new list, a new tuple, a sum of lists -/
theorem dt_new {S : List Addr} {H : Hp} {p : Addr} {xs : List V} {ds : List PyData} (hS : Has S H) (n : H p = none) (h : DtA (rs S H) xs ds) : Dt (rs S (upd H p (.lst xs))) (.ref p) (.list ds) :=
  .lst (by rw [rs_out (hS.out n)]; exact upd_same) (h.same (rs_same (same_upd n)))
theorem dt_newT {S : List Addr} {H : Hp} {p : Addr} {xs : List V} {ds : List PyData} (hS : Has S H) (n : H p = none) (h : DtA (rs S H) xs ds) : Dt (rs S (upd H p (.tup xs))) (.ref p) (.tuple ds) :=
  .tup (by rw [rs_out (hS.out n)]; exact upd_same) (h.same (rs_same (same_upd n)))
theorem d_lst {S : List Addr} {H : Hp} {xs : List V} {ds : List PyData} {Q : VK} (hS : Has S H) (h : DtA (rs S H) xs ds) (hz : xs.length ≤ sizeLine) (k : ∀ p H', Same H H' → H p = none → H' p = some (.lst xs) → Dt (rs S H') (.ref p) (.list ds) → Q (.ref p) H') : xs.length ≤ sizeLine ∧ ∀ p, H p = none → Q (.ref p) (upd H p (.lst xs)) :=
  ⟨hz, fun p n => k p _ (same_upd n) n upd_same (dt_new hS n h)⟩
theorem d_tup {S : List Addr} {H : Hp} {xs : List V} {ds : List PyData} {Q : VK} (hS : Has S H) (h : DtA (rs S H) xs ds) (hz : xs.length ≤ sizeLine) (k : ∀ p H', Same H H' → H p = none → H' p = some (.tup xs) → Dt (rs S H') (.ref p) (.tuple ds) → Q (.ref p) H') : xs.length ≤ sizeLine ∧ ∀ p, H p = none → Q (.ref p) (upd H p (.tup xs)) :=
  ⟨hz, fun p n => k p _ (same_upd n) n upd_same (dt_newT hS n h)⟩
theorem d_cat {S : List Addr} {H : Hp} {v w : V} {ds es : List PyData} {Q : VK} (hS : Has S H) (hv : Dt (rs S H) v (.list ds)) (hw : Dt (rs S H) w (.list es)) (hz : ds.length + es.length ≤ sizeLine) (k : ∀ p H', Same H H' → H p = none → Dt (rs S H') (.ref p) (.list (ds ++ es)) → Q (.ref p) H') : rCat v w H Q := by
  obtain ⟨a, xs, rfl, ha, hx⟩ := hv.listE
  obtain ⟨b, ys, rfl, hb, hy⟩ := hw.listE
  exact ⟨a, b, xs, ys, rfl, rfl, (rs_some ha).2, (rs_some hb).2, by rw [hx.len, hy.len]; exact hz, fun p n => k p _ (same_upd n) n (dt_new hS n (hx.app hy))⟩
theorem d_eq {K : PySem.W.Frag} {H : Hp} {v w : V} {d e : PyData} {Q : VK} (hv : Dt H v d) (hw : Dt H w e) (sd : SeqAt.shaped d = true) (se : SeqAt.shaped e = true) (q : Q (.bl (PyData.eqv d e)) H) : rEqD K v w H Q := ⟨d, e, hv.dp, hw.dp, sd, se, q⟩
theorem d_ne {K : PySem.W.Frag} {H : Hp} {v w : V} {d e : PyData} {Q : VK} (hv : Dt H v d) (hw : Dt H w e) (sd : SeqAt.shaped d = true) (se : SeqAt.shaped e = true) (q : Q (.bl (!PyData.eqv d e)) H) : rNeD K v w H Q := ⟨d, e, hv.dp, hw.dp, sd, se, q⟩
/-! ### comprehensions -/
/-- what comes of an item: nothing, or data -/
def Out (S : List Addr) (H : Hp) : Option PyData → Option V → Prop
  | some d, some v => Dt (rs S H) v d
  | none, none => True
  | _, _ => False
def accP (S : List Addr) (H1 : Hp) (D : Addr) (ds : List PyData) (H : Hp) : Prop := Same H1 H ∧ ∃ ys, H D = some (.lst ys) ∧ DtA (rs (D :: S) H) ys ds
theorem acc_step {S : List Addr} {H1 : Hp} {D : Addr} {sel : List (Option PyData)} {i : Nat} {o : Option PyData} {H H4 : Hp} (nD : H1 D = none) (ho : sel[i]? = some o) (hz : sel.length < sizeLine) (h : accP S H1 D ((sel.take i).filterMap id) H) (s4 : Same H H4) :
    ∀ y : Option V, Out (D :: S) H4 o y → match y with
      | some v => ∃ acc, H4 D = some (.lst acc) ∧ acc.length < sizeLine ∧ accP S H1 D ((sel.take (i + 1)).filterMap id) (upd H4 D (.lst (acc ++ [v])))
      | none => accP S H1 D ((sel.take (i + 1)).filterMap id) H4 := by
  obtain ⟨s, ys, hD, hy⟩ := h
  intro y hO
  rw [take_fm ho]
  cases o with
  | none =>
    cases y with
    | none => exact ⟨s.trans s4, ys, s4 _ _ hD, by simpa using hy.same (rs_same s4)⟩
    | some v => exact absurd hO (fun z => z)
  | some d =>
    cases y with
    | none => exact absurd hO (fun z => z)
    | some v =>
      refine ⟨ys, s4 _ _ hD, ?_, same_over nD (s.trans s4), ys ++ [v], upd_same, ?_⟩
      · rw [hy.len]
        exact Nat.lt_of_le_of_lt (fm_len sel i) hz
      · rw [rs_upd List.mem_cons_self]
        exact (hy.same (rs_same s4)).app (.cons hO .nil)
theorem acc_end {S : List Addr} {H1 : Hp} {D : Addr} {ds : List PyData} {H : Hp} (hS : Has S H1) (nD : H1 D = none) (h : accP S H1 D ds H) : Dt (rs S H) (.ref D) (.list ds) := by
  obtain ⟨s, ys, hD, hy⟩ := h
  exact .lst (by rw [rs_out (hS.out nD)]; exact hD) (hy.same over)
theorem lc_dR {lo : Int} {n : Nat} {j : Nat} {tt : TT} {te : TE} {vs : List Nat} {σ : L2.St} {H1 : Hp} {D : Addr} {Qd : Hp → Prop} {S : List Addr} (hS : Has S H1) (sel : List (Option PyData)) (nD : H1 D = none) (hlen : sel.length = n) (hz : n < sizeLine)
    (hw : ∀ x, wipe ((wipe σ vs).set j (some x)) vs = wipe σ vs)
    (hs : ∀ (i : Nat) (o : Option PyData) (H' : Hp), i < n → sel[i]? = some o → Same H1 H' → Has (D :: S) H' → ∀ Qt : Option V → Hp → Prop, (∀ y H'', Same H' H'' → Out (D :: S) H'' o y → Qt y H'') →
      tt ((wipe σ vs).set j (some (.int (lo + (i : Int))))) H' fun b H3 => if b = true then te ((wipe σ vs).set j (some (.int (lo + (i : Int))))) H3 fun y H4 => Qt (some y) H4 else Qt none H3)
    (hd : ∀ H', Same H1 H' → H' D ≠ none → Dt (rs S H') (.ref D) (.list (sel.filterMap id)) → Qd H') :
    ∃ W : Nat → Nat → Hp → Prop, (∃ m, W 0 m (upd H1 D (.lst []))) ∧ ∀ i m H, W i m H →
      ((Itr lo n).stop i H ∧ Qd H) ∨ ((Itr lo n).go i H ∧ ∃ Nx : Hp → Prop, (∀ H', Nx H' → ∃ m', m' < m ∧ W (i + 1) m' H') ∧ ∀ x H', (Itr lo n).yld i H x H' → gName j x (wipe σ vs) H' fun σ2 H2 => wipe σ2 vs = wipe σ vs ∧ tt σ2 H2 fun b H3 =>
        if b = true then te σ2 H3 fun y H4 => ∃ acc, H4 D = some (.lst acc) ∧ acc.length < sizeLine ∧ Nx (upd H4 D (.lst (acc ++ [y]))) else Nx H3) := by
  refine lc_range (lo := lo) (n := n) (fun i H => accP S H1 D ((sel.take i).filterMap id) H) ⟨same_upd nD, [], upd_same, .nil⟩ ?_ ?_
  · rintro i H hi h
    refine ⟨hw _, ?_⟩
    have ho : sel[i]? = some (sel[i]'(by omega)) := List.getElem?_eq_getElem (by omega)
    obtain ⟨s, ys, hD, hy⟩ := id h
    exact hs i _ H hi ho s ((hS.same s).cons hD) (fun o H4 => match o with
      | some y => ∃ acc, H4 D = some (.lst acc) ∧ acc.length < sizeLine ∧ accP S H1 D ((sel.take (i + 1)).filterMap id) (upd H4 D (.lst (acc ++ [y])))
      | none => accP S H1 D ((sel.take (i + 1)).filterMap id) H4) fun y H4 s4 hO => acc_step nD ho (by omega) h s4 y hO
  · rintro H h
    rw [← hlen, List.take_length] at h
    refine hd H h.1 ?_ (acc_end hS nD h)
    obtain ⟨_, ys, hD, _⟩ := h
    rw [hD]
    exact fun z => nomatch z
theorem lc_dL {K : PySem.W.Frag} {a : Addr} {xs : List V} {j : Nat} {tt : TT} {te : TE} {vs : List Nat} {σ : L2.St} {H1 : Hp} {D : Addr} {Qd : Hp → Prop} {S : List Addr} (hS : Has S H1) (sel : List (Option PyData)) (nD : H1 D = none) (hA : SqL K H1 a xs) (hlen : sel.length = xs.length) (hz : xs.length < sizeLine)
    (hw : ∀ x, wipe ((wipe σ vs).set j (some x)) vs = wipe σ vs)
    (hs : ∀ (i : Nat) (x : V) (o : Option PyData) (H' : Hp), xs[i]? = some x → sel[i]? = some o → Same H1 H' → Has (D :: S) H' → ∀ Qt : Option V → Hp → Prop, (∀ y H'', Same H' H'' → Out (D :: S) H'' o y → Qt y H'') →
      tt ((wipe σ vs).set j (some x)) H' fun b H3 => if b = true then te ((wipe σ vs).set j (some x)) H3 fun y H4 => Qt (some y) H4 else Qt none H3)
    (hd : ∀ H', Same H1 H' → H' D ≠ none → Dt (rs S H') (.ref D) (.list (sel.filterMap id)) → Qd H') :
    ∃ W : Nat → Nat → Hp → Prop, (∃ m, W 0 m (upd H1 D (.lst []))) ∧ ∀ i m H, W i m H →
      ((Itl K a).stop i H ∧ Qd H) ∨ ((Itl K a).go i H ∧ ∃ Nx : Hp → Prop, (∀ H', Nx H' → ∃ m', m' < m ∧ W (i + 1) m' H') ∧ ∀ x H', (Itl K a).yld i H x H' → gName j x (wipe σ vs) H' fun σ2 H2 => wipe σ2 vs = wipe σ vs ∧ tt σ2 H2 fun b H3 =>
        if b = true then te σ2 H3 fun y H4 => ∃ acc, H4 D = some (.lst acc) ∧ acc.length < sizeLine ∧ Nx (upd H4 D (.lst (acc ++ [y]))) else Nx H3) := by
  refine lc_list (K := K) (a := a) (xs := xs) (fun i H => accP S H1 D ((sel.take i).filterMap id) H) ⟨same_upd nD, [], upd_same, .nil⟩ (fun i H _ p => p.1.seq hA) ?_ ?_
  · rintro i x H hx h
    refine ⟨hw _, ?_⟩
    have hi := (List.getElem?_eq_some_iff.mp hx).1
    have ho : sel[i]? = some (sel[i]'(by omega)) := List.getElem?_eq_getElem (by omega)
    obtain ⟨s, ys, hD, hy⟩ := id h
    exact hs i x _ H hx ho s ((hS.same s).cons hD) (fun o H4 => match o with
      | some y => ∃ acc, H4 D = some (.lst acc) ∧ acc.length < sizeLine ∧ accP S H1 D ((sel.take (i + 1)).filterMap id) (upd H4 D (.lst (acc ++ [y])))
      | none => accP S H1 D ((sel.take (i + 1)).filterMap id) H4) fun y H4 s4 hO => acc_step nD ho (by omega) h s4 y hO
  · rintro H h
    rw [← hlen, List.take_length] at h
    refine hd H h.1 ?_ (acc_end hS nD h)
    obtain ⟨_, ys, hD, _⟩ := h
    rw [hD]
    exact fun z => nomatch z
/-- maps: each item's data -/
theorem sel_map {α : Type} (l : List α) (f : α → PyData) : (l.map fun x => some (f x)).filterMap id = l.map f := by
  induction l with
  | nil => rfl
  | cons x l ih =>
    show f x :: (l.map fun x => some (f x)).filterMap id = _
    rw [ih]
    rfl
/-- over any walk -/
theorem lc_dW {J : It} {n : Nat} {G : Hp → Prop} {Y : Nat → Hp → V → Hp → Prop} (w : Walk J n G Y) {g : TG} {tt : TT} {te : TE} {vs : List Nat} {σ : L2.St} {H1 : Hp} {D : Addr} {Qd : Hp → Prop} {S : List Addr} (hS : Has S H1) (sel : List (Option PyData)) (nD : H1 D = none) (hlen : sel.length = n) (hz : n < sizeLine)
    (hG : ∀ H', Same H1 H' → G H')
    (hs : ∀ (i : Nat) (o : Option PyData) (H0 : Hp) (x : V) (H' : Hp), i < n → sel[i]? = some o → Same H1 H0 → Has (D :: S) H0 → Y i H0 x H' → ∀ Qt : Option V → Hp → Prop, (∀ y H'', Same H0 H'' → Out (D :: S) H'' o y → Qt y H'') →
      g x (wipe σ vs) H' fun σ2 H2 => wipe σ2 vs = wipe σ vs ∧ tt σ2 H2 fun b H3 => if b = true then te σ2 H3 fun y H4 => Qt (some y) H4 else Qt none H3)
    (hd : ∀ H', Same H1 H' → H' D ≠ none → Dt (rs S H') (.ref D) (.list (sel.filterMap id)) → Qd H') :
    ∃ W : Nat → Nat → Hp → Prop, (∃ m, W 0 m (upd H1 D (.lst []))) ∧ ∀ i m H, W i m H →
      (J.stop i H ∧ Qd H) ∨ (J.go i H ∧ ∃ Nx : Hp → Prop, (∀ H', Nx H' → ∃ m', m' < m ∧ W (i + 1) m' H') ∧ ∀ x H', J.yld i H x H' → g x (wipe σ vs) H' fun σ2 H2 => wipe σ2 vs = wipe σ vs ∧ tt σ2 H2 fun b H3 =>
        if b = true then te σ2 H3 fun y H4 => ∃ acc, H4 D = some (.lst acc) ∧ acc.length < sizeLine ∧ Nx (upd H4 D (.lst (acc ++ [y]))) else Nx H3) := by
  refine lc_it w (fun i H => accP S H1 D ((sel.take i).filterMap id) H) ⟨same_upd nD, [], upd_same, .nil⟩ (fun i H _ p => hG H p.1) ?_ ?_
  · rintro i x H H' hi h y
    have ho : sel[i]? = some (sel[i]'(by omega)) := List.getElem?_eq_getElem (by omega)
    obtain ⟨s, ys, hD, hy⟩ := id h
    exact hs i _ H x H' hi ho s ((hS.same s).cons hD) y (fun o H4 => match o with
      | some y => ∃ acc, H4 D = some (.lst acc) ∧ acc.length < sizeLine ∧ accP S H1 D ((sel.take (i + 1)).filterMap id) (upd H4 D (.lst (acc ++ [y])))
      | none => accP S H1 D ((sel.take (i + 1)).filterMap id) H4) fun y H4 s4 hO => acc_step nD ho (by omega) h s4 y hO
  · rintro H h
    rw [← hlen, List.take_length] at h
    refine hd H h.1 ?_ (acc_end hS nD h)
    obtain ⟨_, ys, hD, _⟩ := h
    rw [hD]
    exact fun z => nomatch z
theorem dt_pairs {K : PySem.W.Frag} {H : Hp} {a : Addr} {ps : List (Int × Int)} (h : Dt H (.ref a) (.list (ps.map pairD))) : PairsAt K H a ps := by
  cases h with
  | lst ha hx =>
    rename_i xs
    have key : ∀ (ps : List (Int × Int)) (xs : List V), DtA H xs (ps.map pairD) → ∃ as : List Addr, xs = as.map V.ref ∧ as.length = ps.length ∧ ∀ (i : Nat) (t : Addr) (p : Int × Int), as[i]? = some t → ps[i]? = some p → SqT K H t [.int p.1, .int p.2] := fun ps => by
      induction ps with
      | nil => intro xs h; cases h; exact ⟨[], rfl, rfl, fun i t p ht => by simp at ht⟩
      | cons p ps ih =>
        intro xs h
        cases h with
        | cons b c =>
          obtain ⟨as, rfl, hl, k⟩ := ih _ c
          obtain ⟨t, ys, rfl, ht, hy⟩ := (show Dt H _ (.tuple [.int p.1, .int p.2]) from b).tupE
          rw [DtA.intsE (ns := [p.1, p.2]) hy] at ht
          refine ⟨t :: as, rfl, by rw [List.length_cons, List.length_cons, hl], fun i u q hu hq => ?_⟩
          cases i with
          | zero =>
            rw [List.getElem?_cons_zero] at hu hq
            cases hu
            cases hq
            exact .inl (.inl ht)
          | succ i =>
            rw [List.getElem?_cons_succ] at hu hq
            exact k i u q hu hq
    obtain ⟨as, rfl, hl, k⟩ := key ps xs hx
    exact ⟨as, .inl (.inl ha), hl, k⟩
end My

namespace My
open PySem PySem.Spec PyProof.Rows L2 Pre
/-! ### set(a list of whole numbers) -/
/-- a set just made -/
abbrev sE (w : World) : Obj := { cls := .type "set", dict := none, data := .set #[] 0 (.fresh 0 0 (!w.params.followText "set-order")) }
section
variable {P : Program} {w : World} {A : Around} {E : Value → Shared → Prop} {s : Shared}
/-- all that stood ahead stands -/
def Ahead (h h' : Heap) : Prop := ∀ b o, h.get? b = some o → h'.get? b = some o
set_option maxHeartbeats 8000000 in
theorem set_of_list {l : Addr} {its : Array Value} (ns : List Int) {Q : Value → Shared → Prop} (calm : A.handled = none) (lst : s.heap.IsList l its) (are : IntsAre its.toList ns) (few : ns.length + 1 < scanBound)
    (fin : ∀ (h' : Heap) (tk c : Nat), SetR w h' s.heap.objs.size (fun j => decide (j ∈ ns)) c → c ≤ ns.length → Ahead s.heap h' → Q (.ref s.heap.objs.size) { s with heap := h', toks := tk }) :
    wpAny (model P w) A (call (.type "set") [.ref l]) Q E s := by
  have size : its.size = ns.length := (Array.length_toList (xs := its)).symm.trans are.length
  obtain ⟨c0, tl, hmro⟩ := F.called_set.mro; have hmade := F.called_set.made; have hsub := F.called_set.sub; have hlt := F.called_set.notType; have hcr := F.called_set.canCreate; have hct := F.typeCall_set_1 (.ref l)
  refine wpAny_call (codeAny_of_tree ?_); show wpAny _ _ (callAny (.type "set") _) _ _ _
  refine wpAny_pure ⟨Code.quiet_builtin _ (by decide +kernel), codeAny_builtin F.entry_type_call ?_⟩; rw [Around.under_plain (weight_type_call_type "set" [.ref l] []) rfl]
  repeat (any_goals (first | assumption | wp_step))
  let top := s.heap.objs.size
  let h1 := s.heap.push (sE w)
  refine codeAny_mono (code_set_led1 (.ref l) (E := E) (Q₁ := fun x t => x = .ref top ∧ t = { s with heap := h1 }) ⟨rfl, rfl⟩) fun r t hr => ?_
  rcases r with e | fl
  · exact hr
  cases fl with
  | ret x =>
    obtain ⟨rfl, rfl⟩ := hr
    have new : h1.get? top = some (sE w) := Heap.get?_push_size _ rfl
    have isSet : Shared.TypeIs { s with heap := h1 } (.ref top) "set" := ⟨_, new, rfl⟩
    have hli := F.called_set.init.lookup; have hbi := F.called_set.init.bind (.ref top)
    repeat (any_goals (first | assumption | wp_step))
    refine codeAny_mono (codeAny_call_builtin (R := wants (fun y u => y = .none ∧ ∃ h' tk c, u = { s with heap := h', toks := tk } ∧ SetR w h' top (fun j => decide (j ∈ ns)) c ∧ c ≤ ns.length ∧ Ahead s.heap h') E) F.called_set.init.plain F.entry_set_init (check_set_init_1 isSet ?_)) fun r2 u hu => ?_
    · obtain ⟨⟨oc, od, ot, os⟩, at_l, cl, nl, dl⟩ := lst
      simp only at cl dl; subst cl; subst dl
      have at1 : h1.get? l = some { cls := .type "list", dict := od, data := .seq its nl, slots := os } := Heap.get?_push_of_some _ at_l
      have n1 := F.sub_list_set; have n2 := F.sub_list_frozenset; have n3 : (Value.type "list" == Value.type "dict") = false := by decide
      have lst1 : h1.IsList l its := ⟨_, at1, rfl, nl, rfl⟩
      unfold Builtin.«set.__init__» noKeywords Builtin.Frozenset.updateFrom; generalize eI : pyIter = I
      wp_walk
      subst eI
      refine wpAny_pyIter_list lst1 ?_; refine wpAny_bind (wpAny_runValue ?_)
      have lt := Heap.lt_size at_l
      have calm3 : A.in1.in1.in1.handled = none := by simp [calm]
      have hz : h1.objs.size = top + 1 := Heap.size_push ..
      have apart : l ≠ h1.objs.size := by rw [hz]; exact Nat.ne_of_lt (Nat.lt_succ_of_lt lt)
      have notin : top ∉ [h1.objs.size, l] := by
        rw [hz]; intro z
        rcases List.mem_cons.mp z with z | z
        · omega
        · have := List.mem_singleton.mp z; exact Nat.lt_irrefl l (by rw [← this] at lt ⊢; exact lt)
      have each : ∀ (i : Nat) (v : Value), its[i]? = some v → ∃ k t, ns[i]? = some k ∧ v = .int k t := fun i v hv => by
        have hi := (Array.getElem?_eq_some_iff.mp hv).1; rw [size] at hi
        obtain ⟨t, e⟩ := IntsAre.int_at are i v ((Array.getElem?_toList (xs := its)).trans hv)
        exact ⟨ns[i], t, List.getElem?_eq_getElem hi, by rw [e, List.getD_eq_getElem?_getD, List.getElem?_eq_getElem hi]; rfl⟩
      refine set_update_ints ((Walks.list calm3 _ l apart its).toS) top notin ns size few each (its.size - 0) 0 _ (by omega) (Nat.zero_le _) ⟨⟨_, Heap.get?_push_size _ rfl, rfl, rfl⟩, (lst1.push _)⟩ ⟨0, Nat.le_refl 0, setR_new_at (Heap.get?_push_of_some _ new)⟩ fun s2 c mv hc set2 => ?_
      have es : s2 = { s with heap := s2.heap, toks := s2.toks } := by
        obtain ⟨a1, a2, a3, a4, a5⟩ := s2
        obtain rfl : a2 = s.gens := mv.gens
        obtain rfl : a3 = s.drawn := mv.drawn
        obtain rfl : a5 = s.os := mv.os
        rfl
      rw [size] at hc
      show wpAny _ _ _ _ _ _
      refine wpAny_pure ?_
      show wpAny _ _ (ret Value.none) _ _ _
      refine wpAny_pure ⟨rfl, s2.heap, s2.toks, c, es, set2, hc, fun b o e => mv.heap b o (fun z => ?_) (Heap.get?_push_of_some _ (Heap.get?_push_of_some _ e))⟩
      have lb := Heap.lt_size e
      rcases List.mem_cons.mp z with z | z
      · exact Nat.lt_irrefl _ (by rw [z] at lb; exact lb)
      · rw [List.mem_singleton.mp z, hz] at lb; exact absurd lb (by show ¬ top + 1 < top; omega)
    · rcases r2 with e | fl2
      · exact hu
      cases fl2 with
      | ret y =>
        obtain ⟨rfl, h', tk, c, rfl, a1, a2, a3⟩ := hu
        repeat (any_goals (first | assumption | wp_step))
        exact fin _ _ _ a1 a2 a3
      | _ => exact hu.elim
  | _ => exact hr.elim
end
section
variable {X : Cx}
def rSetL (K : PySem.W.Frag) (w : World) : List V → Hp → VK → Prop := fun xs H Q => ∃ (l : Addr) (ns : List Int), xs = [.ref l] ∧ SqL K H l (ns.map V.int) ∧ ns.length ≤ 1000 ∧ ∀ p c, H p = none → c ≤ ns.length → Q (.ref p) (upd H p (SetO w p (fun j => decide (j ∈ ns)) c))
theorem k_setL (K : PySem.W.Frag) (h : X.K = K) (hc : X.calm = true) : CallR X (.type "set") (rSetL K X.w) := by
  subst h
  intro pins s σ H xs us Q I r h
  obtain ⟨l, ns, rfl, hl, hz, q⟩ := h
  rw [Vals.ref1 r]
  obtain ⟨its, rv, pl, _⟩ := I.list hl
  have are : IntsAre its.toArray.toList ns := ints_of_vals rv
  exact set_of_list ns (I.ok.hd hc) pl.isList are (by unfold scanBound; omega) fun h' tk c R le kp => ⟨.ref _, _, I.laid (t' := tk) kp (Nat.le_refl _) (setO_new R), rfl, q _ c (I.hok.fresh (Nat.le_refl _)) le⟩
/-- sorted(a set of whole numbers) -/
theorem k_sortedSet (h : X.calm = true) : CallR X (.builtin "sorted") (rSortedSet X.w) := cr_sortedSet h
/-- not in a range -/
theorem op_notin_rng : OpR X (compareOp .NotIn) (fun x y H Q => ∃ i a lo hi, x = V.int i ∧ y = V.ref a ∧ H a = some (.rng lo hi) ∧ Q (.bl (!decide (lo ≤ i ∧ i < hi))) H) := by
  intro pins s σ H x y v u Q I rx ry h
  obtain ⟨i, a, lo, hi, rfl, rfl, ha, q⟩ := h
  obtain ⟨k, rfl⟩ := rx
  obtain rfl : u = Value.ref a := ry
  obtain ⟨t1, t2, t3, ho⟩ := I.hok a _ ha
  show wpAny _ _ (do return Value.bool (!(← contains (Value.ref a) (Value.int i k)))) _ _ s
  refine wpAny_bind (wpAny_contains_slot (T := "range") ⟨_, ho, rfl⟩ F.slot_range_contains (call_meets F.slot_range_contains ⟨_, ho, rfl⟩ F.entry_range_contains (F.args_range_contains_2 _ _) (q_contains a lo hi i t1 t2 t3 k) ⟨ho, wpAny_truthy_bool (wpAny_pure ⟨.bl _, H, I, rfl, ?_⟩)⟩))
  rw [place1]; exact q
variable {a b c d : Expr} {ta tb tc td : TE} {pos : Pos} {o1 o2 o3 : CmpOp} {r1 r2 r3 : R2}
def tChain3 (r1 r2 r3 : R2) (ta tb tc td : TE) : TE := fun σ H Q => ta σ H fun x H1 => tb σ H1 fun y H2 => r1 x y H2 fun z H3 => ∃ k, z = .bl k ∧ (if k = true then tc σ H3 fun u H4 => r2 y u H4 fun z2 H5 => ∃ k2, z2 = .bl k2 ∧ (if k2 = true then td σ H5 fun v H6 => r3 u v H6 Q else Q (.bl false) H5) else Q (.bl false) H3)
theorem pe_chain3 (h1 : OpR X (compareOp o1) r1) (h2 : OpR X (compareOp o2) r2) (h3 : OpR X (compareOp o3) r3) (ha : PE X a ta) (hb : PE X b tb) (hc : PE X c tc) (hd : PE X d td)
    (hm : lastMarks [o1, o2, o3] [b, c, d] = false := by with_unfolding_all rfl) : PE X (.Compare a [o1, o2, o3] [b, c, d] pos) (tChain3 r1 r2 r3 ta tb tc td) := by
  refine ⟨fun pins s σ H Q I h => Compare_chain (thn (ha.run pins s σ H _ I h) fun v s1 ⟨x, H1, I1, rx, q1⟩ => chain_link (thn (hb.run pins s1 σ H1 _ I1 q1) fun u s2 ⟨y, H2, I2, ry, q2⟩ => thn (h1 pins s2 σ H2 x y v u _ I2 rx ry q2) fun _ s3 ⟨_, H3, I3, rz, k, e, q3⟩ => ?_)) hm⟩
  subst e; cases rz; refine wpAny_truthy_bool ?_
  cases k
  · exact ite_ff ⟨.bl false, H3, I3, rfl, q3⟩
  refine ite_tt (chain_link (thn (hc.run pins s3 σ H3 _ I3 q3) fun w' s4 ⟨z', H4, I4, r4, q4⟩ => thn (h2 pins s4 σ H4 y z' u w' _ I4 ry r4 q4) fun _ s5 ⟨_, H5, I5, rz, k2, e, q5⟩ => ?_))
  subst e; cases rz; refine wpAny_truthy_bool ?_
  cases k2
  · exact ite_ff ⟨.bl false, H5, I5, rfl, q5⟩
  exact ite_tt (chain_last (thn (hd.run pins s5 σ H5 _ I5 q5) fun v6 s6 ⟨z6, H6, I6, r6, q6⟩ => h3 pins s6 σ H6 z' z6 w' v6 Q I6 r4 r6 q6))
theorem pt_chain3 (h1 : OpR X (compareOp o1) r1) (h2 : OpR X (compareOp o2) r2) (h3 : OpR X (compareOp o3) r3) (ha : PE X a ta) (hb : PE X b tb) (hc : PE X c tc) (hd : PE X d td)
    (hm : lastMarks [o1, o2, o3] [b, c, d] = false := by with_unfolding_all rfl) : PT X (.Compare a [o1, o2, o3] [b, c, d] pos) (tTest (tChain3 r1 r2 r3 ta tb tc td)) := by
  refine ⟨fun pins s σ H Q I h => isTrue_chain (thn (ha.run pins s σ H _ I h) fun v s1 ⟨x, H1, I1, rx, q1⟩ => test_link (thn (hb.run pins s1 σ H1 _ I1 q1) fun u s2 ⟨y, H2, I2, ry, q2⟩ => thn (h1 pins s2 σ H2 x y v u _ I2 rx ry q2) fun _ s3 ⟨_, H3, I3, rz, k, e, q3⟩ => ?_)) hm⟩
  subst e; cases rz; refine wpAny_truthy_bool ?_
  cases k
  · obtain ⟨k', e', q'⟩ := q3; cases e'; exact ite_ff ⟨H3, I3, q'⟩
  refine ite_tt (test_link (thn (hc.run pins s3 σ H3 _ I3 q3) fun w' s4 ⟨z', H4, I4, r4, q4⟩ => thn (h2 pins s4 σ H4 y z' u w' _ I4 ry r4 q4) fun _ s5 ⟨_, H5, I5, rz, k2, e, q5⟩ => ?_))
  subst e; cases rz; refine wpAny_truthy_bool ?_
  cases k2
  · obtain ⟨k', e', q'⟩ := q5; cases e'; exact ite_ff ⟨H5, I5, q'⟩
  refine ite_tt (test_last (thn (hd.run pins s5 σ H5 _ I5 q5) fun v6 s6 ⟨z6, H6, I6, r6, q6⟩ => thn (h3 pins s6 σ H6 z' z6 w' v6 _ I6 r4 r6 q6) fun _ s7 ⟨_, H7, I7, rz, k3, e, q7⟩ => ?_))
  subst e; cases rz; exact wpAny_truthy_bool ⟨H7, I7, q7⟩
end
end My

namespace My
open PySem PySem.Spec PyProof.Rows L2 Pre
/-! ### texts of bits -/
def sgn (b : Bool) : Nat := if b = true then 49 else 48
def bS (bs : List Bool) : Str := ⟨(bs.map sgn).toArray⟩
theorem bS_len (bs : List Bool) : (bS bs).length = bs.length := by simp [bS, Str.length]
theorem bS_size (bs : List Bool) : (bS bs).cps.size = bs.length := by simp [bS]
theorem bS_app (a b : List Bool) : bS a ++ bS b = bS (a ++ b) := by
  show (⟨(bS a).cps ++ (bS b).cps⟩ : Str) = _
  unfold bS
  rw [List.map_append, List.append_toArray]
theorem sgn_inj {a b : Bool} (h : sgn a = sgn b) : a = b := by cases a <;> cases b <;> first | rfl | (simp [sgn] at h)
theorem bS_inj {a b : List Bool} (h : bS a = bS b) : a = b := by
  have e : a.map sgn = b.map sgn := by
    have := congrArg (fun z : Str => z.cps.toList) h
    simpa [bS] using this
  induction a generalizing b with
  | nil => cases b with
    | nil => rfl
    | cons _ _ => simp at e
  | cons x r ih => cases b with
    | nil => simp at e
    | cons y q =>
      rw [List.map_cons, List.map_cons, List.cons.injEq] at e
      have hr : bS r = bS q := by
        have z : r.map sgn = q.map sgn := e.2
        unfold bS
        rw [z]
      rw [sgn_inj e.1, ih hr e.2]
theorem bS_at {bs : List Bool} {i c : Nat} (h : (bS bs).cps[i]? = some c) : ∃ b, bs[i]? = some b ∧ (⟨#[c]⟩ : Str) = bS [b] := by
  have e : (bs.map sgn)[i]? = some c := by
    unfold bS at h
    rw [← h]
    simp
  rw [List.getElem?_map] at e
  obtain ⟨b, hb, rfl⟩ := Option.map_eq_some_iff.mp e
  exact ⟨b, hb, rfl⟩
theorem bS_atI {bs : List Bool} {i : Nat} {b : Bool} (h : bs[i]? = some b) : atI (bS bs).cps.toList (i : Int) = some (sgn b) := by
  refine atI_nat ?_
  unfold bS
  simp [h]
theorem bS_one (b : Bool) : (⟨#[sgn b]⟩ : Str) = bS [b] := rfl
theorem str_one : (("1" : String) : Str) = bS [true] := by decide +kernel
theorem str_nil : (("" : String) : Str) = bS [] := by decide +kernel
theorem str_zero : (("0" : String) : Str) = bS [false] := by decide +kernel
theorem dec_bS (a b : List Bool) : decide (V.str (bS a) = V.str (bS b)) = decide (a = b) := by
  by_cases h : a = b
  · subst h; simp
  · rw [decide_eq_false h, decide_eq_false]
    exact fun z => h (bS_inj (V.str.inj z))
theorem one_sign (b : Bool) : decide (V.str (bS [b]) = V.str (("1" : String) : Str)) = b := by
  rw [str_one, dec_bS]
  cases b <;> rfl
theorem reps_list (c : List Nat) : ∀ (k : Nat) (acc : List Nat), (List.replicate k c.toArray).foldl (· ++ ·) acc.toArray = (acc ++ (List.replicate k c).flatten).toArray
  | 0, acc => by simp
  | k + 1, acc => by
    rw [List.replicate_succ, List.foldl_cons, List.append_toArray, reps_list c k, List.replicate_succ, List.flatten_cons, List.append_assoc]
theorem bS_mul (k : Nat) : Txt.mul (("0" : String) : Str) (k : Int) = bS (List.replicate k false) := by
  rw [str_zero]
  unfold Txt.mul
  by_cases h0 : (k : Int) < 1
  · rw [if_pos h0, show k = 0 by omega]
    rfl
  · rw [if_neg h0]
    by_cases h1 : k = 1
    · subst h1
      rfl
    · rw [if_neg (by
        rw [Bool.or_eq_true, beq_iff_eq, beq_iff_eq, bS_len]
        simp
        omega), Int.toNat_natCast]
      have := reps_list [48] k []
      unfold bS
      rw [List.map_replicate]
      show (⟨(List.replicate k ([48] : List Nat).toArray).foldl (· ++ ·) ([] : List Nat).toArray⟩ : Str) = _
      rw [this, List.nil_append]
      have e : (List.replicate k [48]).flatten = List.replicate k 48 := by
        clear this h0 h1
        induction k with
        | zero => rfl
        | succ k ih => rw [List.replicate_succ, List.flatten_cons, ih, List.replicate_succ]; rfl
      rw [e]
      rfl
theorem join_bits (bs : List Bool) : Txt.join (("" : String) : Str) (bs.map fun b => bS [b]) = bS bs := by
  rw [TL.join_eq]
  have e0 : TL.tl ((("" : String) : Str)) = [] := by rw [str_nil]; rfl
  have key : ∀ bs : List Bool, TL.joinL [] ((bs.map fun b => bS [b]).map TL.tl) = bs.map sgn := by
    intro bs
    induction bs with
    | nil => rfl
    | cons b r ih =>
      cases r with
      | nil => rfl
      | cons c q =>
        show TL.tl (bS [b]) ++ ([] ++ TL.joinL [] (((c :: q).map fun b => bS [b]).map TL.tl)) = _
        rw [ih]
        rfl
  have h := TL.tl_join (("" : String) : Str) (bs.map fun b => bS [b])
  rw [e0, key] at h
  unfold bS
  rw [← h]
  exact (TL.mk_tl _).symm
section
variable {X : Cx}
def rRepS : R2 := fun x y H Q => ∃ (z : Str) (n : Nat), x = .str z ∧ y = .int n ∧ z.length ≤ 100 ∧ n ≤ 10000 ∧ Q (.str (Txt.mul z n)) H
theorem op_rep_str : OpR X (binaryOp .Mult) rRepS := by
  intro pins s σ H x y v u Q I rx ry h
  obtain ⟨z, n, rfl, rfl, hz, hn, q⟩ := h
  obtain ⟨t, rfl⟩ := rx
  obtain ⟨t', rfl⟩ := ry
  exact PySem.SB.mul (mulOk_of 100 10000 hz (by omega) (by omega) (by decide) (by decide)) fun t' k => ⟨.str (Txt.mul z n), H, I.tok _, ⟨_, rfl⟩, q⟩
end
end My

namespace My
/-! ### folds in bits, read one by one -/
def vF (a : Nat) (bs : List Bool) : Nat := bs.foldl (fun n b => 2 * n + b.toNat) a
theorem vF_nil (a : Nat) : vF a [] = a := rfl
theorem vF_cons (a : Nat) (b : Bool) (r : List Bool) : vF a (b :: r) = vF (2 * a + b.toNat) r := rfl
theorem vF_app (a : Nat) (x y : List Bool) : vF a (x ++ y) = vF (vF a x) y := by unfold vF; rw [List.foldl_append]
theorem vF_eq (a : Nat) (bs : List Bool) : vF a bs = a * 2 ^ bs.length + vF 0 bs := by
  induction bs generalizing a with
  | nil => simp [vF]
  | cons b r ih =>
    rw [vF_cons, ih, vF_cons, ih (2 * 0 + b.toNat), List.length_cons, Nat.pow_succ, Nat.add_mul]
    have : 2 * a * 2 ^ r.length = a * (2 ^ r.length * 2) := by rw [Nat.mul_comm 2 a, Nat.mul_assoc, Nat.mul_comm 2]
    simp only [Nat.mul_zero, Nat.zero_add]
    omega
theorem vF_lt (bs : List Bool) : vF 0 bs < 2 ^ bs.length := by
  induction bs with
  | nil => simp [vF]
  | cons b r ih =>
    rw [vF_cons, vF_eq, List.length_cons, Nat.pow_succ]
    cases b <;> simp <;> omega
theorem vF_mono {a b : Nat} (h : a ≤ b) (bs : List Bool) : vF a bs ≤ vF b bs := by
  rw [vF_eq a, vF_eq b]
  have := Nat.mul_le_mul_right (2 ^ bs.length) h
  omega
theorem vF_ge (a : Nat) (bs : List Bool) : a ≤ vF a bs := by
  rw [vF_eq]
  have : a * 1 ≤ a * 2 ^ bs.length := Nat.mul_le_mul_left a (Nat.one_le_two_pow)
  omega
theorem vF_inj : ∀ {x y : List Bool}, x.length = y.length → vF 0 x = vF 0 y → x = y
  | [], [], _, _ => rfl
  | [], _ :: _, h, _ => nomatch h
  | _ :: _, [], h, _ => nomatch h
  | a :: x, b :: y, h, e => by
    have hl : x.length = y.length := Nat.succ.inj h
    rw [vF_cons, vF_cons, vF_eq (2 * 0 + a.toNat), vF_eq (2 * 0 + b.toNat), hl] at e
    have h1 := vF_lt x
    have h2 := vF_lt y
    rw [hl] at h1
    cases a <;> cases b <;> simp at e
    · rw [vF_inj hl e]
    · omega
    · omega
    · rw [vF_inj hl e]
/-- the low bits of a number, the high ones first -/
def bB (n : Nat) : Nat → List Bool
  | 0 => []
  | k + 1 => (n / 2 ^ k % 2 == 1) :: bB n k
theorem bB_len (n : Nat) : ∀ k, (bB n k).length = k
  | 0 => rfl
  | k + 1 => by unfold bB; rw [List.length_cons, bB_len n k]
theorem bB_val (n : Nat) : ∀ k, vF 0 (bB n k) = n % 2 ^ k
  | 0 => by simp [bB, vF, Nat.mod_one]
  | k + 1 => by
    unfold bB
    rw [vF_cons, vF_eq, bB_val n k, bB_len, Nat.pow_succ, Nat.mod_mul]
    rcases Nat.mod_two_eq_zero_or_one (n / 2 ^ k) with h | h <;> rw [h] <;> simp <;> omega
theorem bB_of (m : Nat) (bs : List Bool) : bB (m * 2 ^ bs.length + vF 0 bs) bs.length = bs := by
  refine vF_inj (bB_len _ _) ?_
  rw [bB_val, Nat.mul_add_mod_of_lt' (vF_lt bs)]
where
  Nat.mul_add_mod_of_lt' {a b c : Nat} (h : c < b) : (a * b + c) % b = c := by
    rw [Nat.add_comm, Nat.add_mul_mod_self_right, Nat.mod_eq_of_lt h]
def ones : List Bool → Nat
  | true :: r => ones r + 1
  | _ => 0
theorem ones_le : ∀ bs : List Bool, ones bs ≤ bs.length
  | [] => Nat.le_refl _
  | true :: r => by unfold ones; rw [List.length_cons]; have := ones_le r; omega
  | false :: r => by simp [ones]
theorem ones_at : ∀ (bs : List Bool) (i : Nat), i < ones bs → bs[i]? = some true
  | [], i, h => by simp [ones] at h
  | false :: r, i, h => by simp [ones] at h
  | true :: r, 0, _ => rfl
  | true :: r, i + 1, h => by
    rw [List.getElem?_cons_succ]
    exact ones_at r i (by unfold ones at h; omega)
theorem ones_stop : ∀ bs : List Bool, bs[ones bs]? ≠ some true
  | [] => by simp
  | false :: r => by simp [ones]
  | true :: r => by
    unfold ones
    rw [List.getElem?_cons_succ]
    exact ones_stop r
theorem ones_uniq {bs : List Bool} {k : Nat} (h1 : ∀ i, i < k → bs[i]? = some true) (h2 : bs[k]? ≠ some true) : ones bs = k := by
  rcases Nat.lt_trichotomy (ones bs) k with h | h | h
  · exact absurd (h1 _ h) (ones_stop bs)
  · exact h
  · exact absurd (ones_at bs k h) h2
theorem ones_split : ∀ (bs : List Bool), ones bs < bs.length → bs = List.replicate (ones bs) true ++ false :: bs.drop (ones bs + 1)
  | [], h => by simp at h
  | false :: r, _ => by simp [ones]
  | true :: r, h => by
    unfold ones at h ⊢
    rw [List.replicate_succ, List.drop_succ_cons, List.cons_append]
    rw [← ones_split r (by rw [List.length_cons] at h; omega)]
theorem ones_of (k : Nat) (r : List Bool) : ones (List.replicate k true ++ false :: r) = k := by
  induction k with
  | zero => rfl
  | succ k ih => rw [List.replicate_succ, List.cons_append]; unfold ones; rw [ih]
/-- the first fold of some bits, and how many bits it has -/
def foldR (w : Nat) (bs : List Bool) : Option (Nat × Nat) :=
  if ones bs + 1 + w ≤ bs.length then some (vF (ones bs) ((bs.drop (ones bs + 1)).take w), ones bs + 1 + w) else none
def rd (w : Nat) : Nat → List Bool → Nat → List (Nat × Nat)
  | 0, _, _ => []
  | k + 1, bs, p => match foldR w bs with
    | none => []
    | some x => (x.1, p + x.2) :: rd w k (bs.drop x.2) (p + x.2)
theorem rd_none {w k : Nat} {bs : List Bool} {p : Nat} (h : foldR w bs = none) : rd w (k + 1) bs p = [] := by
  show (match foldR w bs with
    | none => []
    | some x => (x.1, p + x.2) :: rd w k (bs.drop x.2) (p + x.2)) = _
  rw [h]
theorem rd_some {w k : Nat} {bs : List Bool} {p : Nat} {x : Nat × Nat} (h : foldR w bs = some x) : rd w (k + 1) bs p = (x.1, p + x.2) :: rd w k (bs.drop x.2) (p + x.2) := by
  show (match foldR w bs with
    | none => []
    | some x => (x.1, p + x.2) :: rd w k (bs.drop x.2) (p + x.2)) = _
  rw [h]
/-- all folds of some bits, each with the place behind it -/
def rdT (w : Nat) (bs : List Bool) : List (Nat × Nat) := rd w bs.length bs 0
theorem foldR_le {w : Nat} {bs : List Bool} {x : Nat × Nat} (h : foldR w bs = some x) : 0 < x.2 ∧ x.2 ≤ bs.length := by
  unfold foldR at h
  split at h
  · cases h; exact ⟨by show 0 < ones bs + 1 + w; omega, by assumption⟩
  · cases h
theorem rd_at (w : Nat) : ∀ (k : Nat) (bs : List Bool) (p0 : Nat), bs.length ≤ k → ∀ (j p : Nat), (p0 :: (rd w k bs p0).map (·.2))[j]? = some p →
    p0 ≤ p ∧ p ≤ p0 + bs.length ∧ (foldR w (bs.drop (p - p0))).map (fun x => (x.1, p + x.2)) = (rd w k bs p0)[j]?
  | 0, bs, p0, h, j, p, e => by
    have hb : bs = [] := List.eq_nil_of_length_eq_zero (by omega)
    subst hb
    cases j with
    | zero =>
      cases e
      refine ⟨Nat.le_refl _, Nat.le_refl _, ?_⟩
      have : foldR w ([] : List Bool) = none := by
        unfold foldR
        rw [if_neg (by simp [ones])]
      simp [this, rd]
    | succ j => simp [rd] at e
  | k + 1, bs, p0, h, j, p, e => by
    cases hf : foldR w bs with
    | none =>
      have e1 : rd w (k + 1) bs p0 = [] := rd_none hf
      rw [e1] at e ⊢
      cases j with
      | zero =>
        cases e
        exact ⟨Nat.le_refl _, by omega, by simp [hf]⟩
      | succ j => simp at e
    | some x =>
      obtain ⟨l1, l2⟩ := foldR_le hf
      have e1 : rd w (k + 1) bs p0 = (x.1, p0 + x.2) :: rd w k (bs.drop x.2) (p0 + x.2) := rd_some hf
      rw [e1] at e ⊢
      cases j with
      | zero =>
        cases e
        exact ⟨Nat.le_refl _, by omega, by simp [hf]⟩
      | succ j =>
        rw [List.getElem?_cons_succ, List.map_cons] at e
        obtain ⟨q1, q2, q3⟩ := rd_at w k (bs.drop x.2) (p0 + x.2) (by rw [List.length_drop]; omega) j p e
        rw [List.length_drop] at q2
        refine ⟨by omega, by omega, ?_⟩
        rw [List.getElem?_cons_succ, ← q3, List.drop_drop]
        have : x.2 + (p - (p0 + x.2)) = p - p0 := by omega
        rw [this]
/-- the place at which the fold number j begins -/
def plc (w : Nat) (bs : List Bool) (j : Nat) : Nat := ((0 :: (rdT w bs).map (·.2))[j]?).getD 0
theorem plc_get {w : Nat} {bs : List Bool} {j : Nat} (h : j ≤ (rdT w bs).length) : (0 :: (rdT w bs).map (·.2))[j]? = some (plc w bs j) := by
  unfold plc
  rw [List.getElem?_eq_getElem (by simp; omega), Option.getD_some]
theorem plc_zero (w : Nat) (bs : List Bool) : plc w bs 0 = 0 := rfl
theorem plc_step {w : Nat} {bs : List Bool} {j : Nat} (h : j ≤ (rdT w bs).length) : plc w bs j ≤ bs.length ∧ (foldR w (bs.drop (plc w bs j))).map (fun x => (x.1, plc w bs j + x.2)) = (rdT w bs)[j]? := by
  obtain ⟨q1, q2, q3⟩ := rd_at w bs.length bs 0 (Nat.le_refl _) j _ (plc_get h)
  rw [Nat.sub_zero] at q3
  exact ⟨by omega, q3⟩
theorem plc_next {w : Nat} {bs : List Bool} {j : Nat} {x : Nat × Nat} (h : (rdT w bs)[j]? = some x) : plc w bs (j + 1) = x.2 := by
  unfold plc
  rw [List.getElem?_cons_succ, List.getElem?_map, h]
  rfl
theorem rd_len (w : Nat) : ∀ (k : Nat) (bs : List Bool) (p : Nat), (rd w k bs p).length ≤ bs.length
  | 0, _, _ => by simp [rd]
  | k + 1, bs, p => by
    cases hf : foldR w bs with
    | none => rw [rd_none hf]; simp
    | some x =>
      rw [rd_some hf]
      obtain ⟨l1, l2⟩ := foldR_le hf
      have := rd_len w k (bs.drop x.2) (p + x.2)
      rw [List.length_drop] at this
      simp only [List.length_cons]
      omega
theorem rdT_len (w : Nat) (bs : List Bool) : (rdT w bs).length ≤ bs.length := rd_len w _ _ _
/-- the bits of one fold -/
def tx1 (w f : Nat) : List Bool := List.replicate (f / 2 ^ w) true ++ false :: bB f w
def txF (w : Nat) (fs : List Nat) : List Bool := fs.flatMap (tx1 w)
theorem tx1_len (w f : Nat) : (tx1 w f).length = f / 2 ^ w + 1 + w := by
  unfold tx1
  rw [List.length_append, List.length_replicate, List.length_cons, bB_len]
  omega
theorem foldR_tx1 (w f : Nat) (r : List Bool) : foldR w (tx1 w f ++ r) = some (f, (tx1 w f).length) := by
  have e : tx1 w f ++ r = List.replicate (f / 2 ^ w) true ++ false :: (bB f w ++ r) := by
    unfold tx1
    rw [List.append_assoc, List.cons_append]
  unfold foldR
  rw [tx1_len, e, ones_of]
  rw [if_pos (by rw [List.length_append, List.length_replicate, List.length_cons, List.length_append, bB_len]; omega)]
  have e2 : (List.replicate (f / 2 ^ w) true ++ false :: (bB f w ++ r)).drop (f / 2 ^ w + 1) = bB f w ++ r := by
    rw [List.drop_append_of_le_length' , List.length_replicate]
    · have : f / 2 ^ w + 1 - f / 2 ^ w = 1 := by omega
      rw [this]
      simp
  have e3 : (bB f w ++ r).take w = bB f w := by
    rw [List.take_append_of_le_length (by rw [bB_len]; exact Nat.le_refl _), List.take_of_length_le (by rw [bB_len]; exact Nat.le_refl _)]
  rw [e2, e3, vF_eq, bB_val, bB_len]
  have := Nat.div_add_mod f (2 ^ w)
  rw [Nat.mul_comm, ] at this
  rw [this]
where
  List.drop_append_of_le_length' {n : Nat} {a b : List Bool} : (a ++ b).drop n = a.drop n ++ b.drop (n - a.length) := List.drop_append
/-- written and read -/
theorem rd_tx (w : Nat) : ∀ (fs : List Nat) (more : List Bool) (k p : Nat), (txF w fs ++ more).length ≤ k →
    ((rd w k (txF w fs ++ more) p).take fs.length).map (·.1) = fs ∧ (p :: (rd w k (txF w fs ++ more) p).map (·.2))[fs.length]? = some (p + (txF w fs).length)
  | [], more, k, p, _ => by simp [txF]
  | f :: fs, more, k, p, h => by
    have e : txF w (f :: fs) ++ more = tx1 w f ++ (txF w fs ++ more) := by
      show (tx1 w f ++ txF w fs) ++ more = _
      rw [List.append_assoc]
    have el : (txF w (f :: fs)).length = (tx1 w f).length + (txF w fs).length := by
      show (tx1 w f ++ txF w fs).length = _
      rw [List.length_append]
    rw [e] at h ⊢
    have hp : 1 ≤ (tx1 w f).length := by
      rw [tx1_len]
      exact Nat.le_trans (Nat.le_add_left 1 _) (Nat.le_add_right _ _)
    rw [List.length_append] at h
    cases k with
    | zero => omega
    | succ k =>
      rw [rd_some (foldR_tx1 w f _)]
      have e2 : (tx1 w f ++ (txF w fs ++ more)).drop (tx1 w f).length = txF w fs ++ more := by simp
      rw [e2]
      obtain ⟨q1, q2⟩ := rd_tx w fs more k (p + (tx1 w f).length) (by omega)
      refine ⟨?_, ?_⟩
      · rw [List.length_cons, List.take_succ_cons, List.map_cons, q1]
      · rw [List.length_cons, List.getElem?_cons_succ, List.map_cons, q2, el]
        congr 1
        omega
theorem rdT_tx (w : Nat) (fs : List Nat) (more : List Bool) : ((rdT w (txF w fs ++ more)).take fs.length).map (·.1) = fs ∧ fs.length ≤ (rdT w (txF w fs ++ more)).length ∧ plc w (txF w fs ++ more) fs.length = (txF w fs).length := by
  obtain ⟨q1, q2⟩ := rd_tx w fs more _ 0 (Nat.le_refl _)
  refine ⟨q1, ?_, ?_⟩
  · have := congrArg List.length q1
    rw [List.length_map, List.length_take] at this
    have : min fs.length (rdT w (txF w fs ++ more)).length = fs.length := this
    omega
  · unfold plc
    show ((0 :: (rd w _ (txF w fs ++ more) 0).map (·.2))[fs.length]?).getD 0 = _
    rw [q2, Option.getD_some, Nat.zero_add]
/-! ### read whole -/
def whole (w : Nat) (bs : List Bool) : Bool := plc w bs (rdT w bs).length == bs.length
theorem lastE {w : Nat} {bs : List Bool} : (0 :: (rdT w bs).map (·.2)).getLast (by simp) = plc w bs (rdT w bs).length := by
  unfold plc
  rw [List.getLast_eq_getElem]
  simp
def goS (w s : Int) (b : Bool) : Int := if 0 < s then s - 1 else if b = true then -1 else w
def runS (w s : Int) (bs : List Bool) : Int := bs.foldl (goS w) s
theorem run_cons (w s : Int) (b : Bool) (r : List Bool) : runS w s (b :: r) = runS w (goS w s b) r := rfl
theorem run_app (w s : Int) (x y : List Bool) : runS w s (x ++ y) = runS w (runS w s x) y := by unfold runS; rw [List.foldl_append]
theorem run_ones (w : Int) (k : Nat) : runS w 0 (List.replicate k true) = if k = 0 then 0 else -1 := by
  cases k with
  | zero => rfl
  | succ k =>
    rw [if_neg (by omega), List.replicate_succ, run_cons]
    show runS w (-1) _ = -1
    induction k with
    | zero => rfl
    | succ k ih => rw [List.replicate_succ, run_cons]; exact ih
theorem run_down (w : Nat) : ∀ (n : Nat) (bs : List Bool), runS w n bs = if bs.length < n then ((n - bs.length : Nat) : Int) else runS w 0 (bs.drop n)
  | 0, bs => by rw [if_neg (by omega)]; rfl
  | n + 1, [] => by rw [if_pos (by simp)]; rfl
  | n + 1, b :: r => by
    rw [run_cons]
    have e : goS w ((n + 1 : Nat) : Int) b = (n : Nat) := by
      unfold goS
      rw [if_pos (by omega)]
      omega
    rw [e, run_down w n r, List.length_cons, List.drop_succ_cons]
    by_cases h : r.length < n
    · rw [if_pos h, if_pos (by omega)]
      congr 1
      omega
    · rw [if_neg h, if_neg (by omega)]
def lastP (p : Nat) (l : List (Nat × Nat)) : Nat := (p :: l.map (·.2)).getLast (by simp)
theorem lastP_cons (p : Nat) (x : Nat × Nat) (l : List (Nat × Nat)) : lastP p (x :: l) = lastP x.2 l := by
  unfold lastP
  simp
theorem whole_run (w : Nat) : ∀ (k : Nat) (bs : List Bool) (p : Nat), bs.length ≤ k → (lastP p (rd w k bs p) = p + bs.length ↔ runS w 0 bs = 0)
  | 0, bs, p, h => by
    have hb : bs = [] := List.eq_nil_of_length_eq_zero (by omega)
    subst hb
    simp [rd, lastP, runS]
  | k + 1, bs, p, h => by
    have ho := ones_le bs
    by_cases h0 : ones bs < bs.length
    · have sp := ones_split bs h0
      have hrun : runS w 0 bs = runS w w (bs.drop (ones bs + 1)) := by
        conv => lhs; rw [sp]
        rw [run_app, run_ones, run_cons]
        have : goS w (if ones bs = 0 then 0 else -1) false = w := by
          unfold goS
          rw [if_neg (by split <;> omega), if_neg (by simp)]
        rw [this]
      rw [hrun, run_down, List.length_drop]
      by_cases h1 : ones bs + 1 + w ≤ bs.length
      · have hf : foldR w bs = some (vF (ones bs) ((bs.drop (ones bs + 1)).take w), ones bs + 1 + w) := by
          unfold foldR
          rw [if_pos h1]
        rw [if_neg (by omega), rd_some hf, lastP_cons, List.drop_drop]
        have ih := whole_run w k (bs.drop (ones bs + 1 + w)) (p + (ones bs + 1 + w)) (by rw [List.length_drop]; omega)
        rw [List.length_drop] at ih
        show lastP (p + (ones bs + 1 + w)) (rd w k (bs.drop (ones bs + 1 + w)) (p + (ones bs + 1 + w))) = _ ↔ _
        rw [← ih]
        constructor <;> intro e <;> omega
      · have hf : foldR w bs = none := by
          unfold foldR
          rw [if_neg h1]
        rw [if_pos (by omega), rd_none hf]
        show p = p + bs.length ↔ _
        constructor <;> intro e <;> omega
    · have e1 : ones bs = bs.length := by omega
      have hf : foldR w bs = none := by
        unfold foldR
        rw [if_neg (by omega)]
      rw [rd_none hf]
      have hr : bs = List.replicate (ones bs) true := by
        refine List.eq_replicate_iff.mpr ⟨e1.symm, fun b hb => ?_⟩
        obtain ⟨i, hi, rfl⟩ := List.getElem_of_mem hb
        have := ones_at bs i (by omega)
        rw [List.getElem?_eq_getElem hi] at this
        exact Option.some.inj this
      have hrun : runS w 0 bs = if ones bs = 0 then 0 else -1 := by
        conv => lhs; rw [hr]
        exact run_ones _ _
      rw [hrun]
      show p = p + bs.length ↔ _
      by_cases h2 : ones bs = 0
      · rw [if_pos h2]; constructor <;> intro e <;> omega
      · rw [if_neg h2]; constructor <;> intro e <;> omega
theorem whole_iff (w : Nat) (bs : List Bool) : whole w bs = true ↔ runS w 0 bs = 0 := by
  rw [← whole_run w bs.length bs 0 (Nat.le_refl _), Nat.zero_add]
  unfold whole
  rw [beq_iff_eq, ← lastE]
  exact Iff.rfl
theorem tx_rd (w : Nat) : ∀ (k : Nat) (bs : List Bool) (p : Nat), bs.length ≤ k → lastP p (rd w k bs p) = p + bs.length → txF w ((rd w k bs p).map (·.1)) = bs
  | 0, bs, p, h, _ => by
    have hb : bs = [] := List.eq_nil_of_length_eq_zero (by omega)
    subst hb
    rfl
  | k + 1, bs, p, h, e => by
    cases hf : foldR w bs with
    | none =>
      rw [rd_none hf] at e ⊢
      have e' : p = p + bs.length := e
      have hb : bs = [] := List.eq_nil_of_length_eq_zero (by omega)
      subst hb
      rfl
    | some x =>
      obtain ⟨l1, l2⟩ := foldR_le hf
      rw [rd_some hf, lastP_cons] at e
      rw [rd_some hf]
      have ih := tx_rd w k (bs.drop x.2) (p + x.2) (by rw [List.length_drop]; omega) (by rw [List.length_drop]; simp only at e; omega)
      show tx1 w x.1 ++ txF w ((rd w k (bs.drop x.2) (p + x.2)).map (·.1)) = bs
      rw [ih]
      unfold foldR at hf
      split at hf
      · rename_i h1
        cases hf
        have hl : ((bs.drop (ones bs + 1)).take w).length = w := by rw [List.length_take, List.length_drop]; omega
        have lo := vF_lt ((bs.drop (ones bs + 1)).take w)
        rw [hl] at lo
        show tx1 w (vF (ones bs) ((bs.drop (ones bs + 1)).take w)) ++ bs.drop (ones bs + 1 + w) = bs
        unfold tx1
        have e1 : vF (ones bs) ((bs.drop (ones bs + 1)).take w) = ones bs * 2 ^ w + vF 0 ((bs.drop (ones bs + 1)).take w) := by rw [vF_eq, hl]
        have e2 : vF (ones bs) ((bs.drop (ones bs + 1)).take w) / 2 ^ w = ones bs := by
          rw [e1, Nat.add_comm, Nat.add_mul_div_right _ _ (Nat.two_pow_pos w), Nat.div_eq_of_lt lo, Nat.zero_add]
        have e3 : bB (vF (ones bs) ((bs.drop (ones bs + 1)).take w)) w = (bs.drop (ones bs + 1)).take w := by
          rw [e1]
          conv => lhs; arg 2; rw [← hl]
          rw [show ones bs * 2 ^ w = ones bs * 2 ^ ((bs.drop (ones bs + 1)).take w).length by rw [hl]]
          exact bB_of _ _
        have e4 : bs.drop (ones bs + 1 + w) = (bs.drop (ones bs + 1)).drop w := List.drop_drop.symm
        rw [e2, e3, e4, List.append_assoc, List.cons_append, List.take_append_drop]
        exact (ones_split bs (by omega)).symm
      · cases hf
theorem tx_whole {w : Nat} {bs : List Bool} (h : whole w bs = true) : txF w ((rdT w bs).map (·.1)) = bs := by
  refine tx_rd w _ bs 0 (Nat.le_refl _) ?_
  rw [Nat.zero_add]
  unfold whole at h
  rw [beq_iff_eq, ← lastE] at h
  exact h
end My

namespace My
open PySem PySem.Spec PyProof.Rows L2 Pre
/-! ### a dict display of one tuple; sets in comprehensions; texts of bits -/
def tDisp1T (tk tv : TE) : TE := fun σ H Q => ∀ p, H p = none → tk σ (L2.upd H p (.dT [])) fun x H1 => tv σ H1 fun y H2 => H2 p = some (.dT []) ∧ ∃ (b : Addr) (k : List Key), x = .ref b ∧ H2 b = some (.tup (k.map kV)) ∧ Q (.ref p) (L2.upd H2 p (.dT [(k, y)]))
section
variable {X : Cx} {k v : Expr} {tk tv : TE} {pos : Pos}
theorem pe_disp1T (hu : X.A.units + 1 < cLine) (hk : PE X k tk) (hv : PE X v tv) : PE X (.Dict [some k] [v] pos) (tDisp1T tk tv) := by
  refine ⟨fun pins s σ H Q I q => ?_⟩
  have hn := I.hok.fresh (Nat.le_refl s.heap.objs.size)
  have I1 := I.laid (a := s.heap.objs.size) (o := .dT []) (h' := s.heap.push { cls := .type "dict", data := .dict #[] }) (t' := s.toks) (fun _ _ q => Heap.get?_push_of_some _ q) (Nat.le_refl _) (dt_empty s.heap I.big)
  have hl := pairTrees_length [some k] [v] X.env pos rfl rfl
  rw [arm_eval_Dict, zip_pairTrees [some k] [v] X.env pos rfl rfl, dictDisplay_pairs _ (fun e => by rw [e] at hl; cases hl) (by rw [hl]; show 1 < 17; decide)]
  refine wpAny_bind (wpAny_standAt (wpAny_bind (wpAny_subDictH (knd := tupleKind (mixKind X.prog X.w)) (show X.A.units < cLine by omega) (by rw [hl]; show 1 ≤ 15; decide) ?_)))
  refine pairTrees_cons_walk (thn (hk.run pins _ σ _ _ I1 (q _ hn)) fun u s1 ⟨x, H1, I2, rx, q2⟩ => thn (hv.run pins s1 σ H1 _ I2 q2) fun w s2 ⟨y, H2, I3, ry, e, b, kk, ex, eb, q3⟩ => pairTrees_nil_walk ?_)
  subst ex
  cases (show u = Value.ref b from rx)
  obtain ⟨z, hd, xs, rel, dd⟩ := dt_of I3.hok e
  cases rel
  refine ⟨[(kk, b, w)], ⟨rfl, rfl, key_of I3.hok eb, trivial⟩, dd, fun h' tk' dd' hs => wpAny_pure ⟨.ref s.heap.objs.size, _, ?_, rfl, q3⟩⟩
  obtain ⟨qo, es, ep, hq, h2, h3, h4, _, h5⟩ := dd'
  have hne : b ≠ s.heap.objs.size := ne_of eb e (fun z => nomatch z)
  refine d_write I3 (by rw [e]; exact True.intro) hs ⟨qo, hq⟩ ⟨by show 1 ≤ sizeLine; decide, hd, _, .cons ⟨rfl, ?_, ry⟩ .nil, qo, es, ep, hq, h2, h3, h4, h5⟩
  show (L2.upd H2 s.heap.objs.size _) b = _
  rw [upd_ne hne]
  exact eb
theorem k_sIn (w : World) (h : X.w = w) : OpR X (compareOp .In) (rSIn w) := by subst h; exact or_sin
theorem k_setLW (K : PySem.W.Frag) (w : World) (h : X.K = K) (hw : X.w = w) (hc : X.calm = true) : CallR X (.type "set") (rSetL K w) := by subst hw; exact k_setL K h hc
end
/-! ### texts -/
theorem bS_tl (bs : List Bool) : (bS bs).cps.toList = bs.map sgn := by unfold bS; simp
theorem find_at {bs : List Bool} {i : Nat} : StrLaws.At (bS bs) (bS [false]) (bS bs).length i ↔ bs[i]? = some false := by
  have h := StrLaws.subAt_one (bS bs) 48 i
  show (i + (⟨#[48]⟩ : Str).length ≤ (bS bs).length ∧ Builtin.Str.subAt (bS bs) ⟨#[48]⟩ i = true) ↔ _
  rw [h, bS_tl, List.getElem?_map]
  constructor
  · intro e
    obtain ⟨b, hb, eb⟩ := Option.map_eq_some_iff.mp e
    cases b with
    | false => exact hb
    | true => simp [sgn] at eb
  · intro e
    rw [e]
    rfl
theorem range'_splitN {s n a : Nat} {pre post : List Nat} (h : List.range' s n = pre ++ a :: post) : a < s + n ∧ s ≤ a ∧ ∀ k, s ≤ k → k < a → k ∈ pre := by
  have hm : a ∈ List.range' s n := by rw [h]; simp
  have hr := List.mem_range'_1.mp hm
  refine ⟨hr.2, hr.1, fun k h1 h2 => ?_⟩
  have hk : k ∈ List.range' s n := List.mem_range'_1.mpr ⟨h1, by omega⟩
  rw [h] at hk
  rcases List.mem_append.mp hk with hk | hk
  · exact hk
  · rcases List.mem_cons.mp hk with hk | hk
    · omega
    · have pw : (List.range' s n).Pairwise (· < ·) := List.pairwise_lt_range'
      rw [h] at pw
      have := (List.pairwise_cons.mp (List.pairwise_append.mp pw).2.1).1 k hk
      omega
/-- the first 0 from a place on -/
theorem find_zero {bs : List Bool} {p : Nat} (hp : p ≤ bs.length) : Txt.find3 (bS bs) (bS [false]) (p : Int) = if p + ones (bs.drop p) < bs.length then ((p + ones (bs.drop p) : Nat) : Int) else -1 := by
  unfold Txt.find3
  have ef : fromIndex (bS bs).length (p : Int) = p := by
    unfold fromIndex
    rw [if_neg (by omega)]
    omega
  rw [ef, StrLaws.occ_eq]
  have key := StrLaws.occ_first (bS bs) (bS [false]) (bS bs).length 1 (Nat.le_refl 1) (List.range' p ((bS bs).length + 1 - p)) p (fun i hi => (List.mem_range'_1.mp hi).1)
  generalize (forIn (List.range' p ((bS bs).length + 1 - p)) ((#[] : Array Nat), p) (StrLaws.occBody (bS bs) (bS [false]) (bS bs).length 1)).run.fst = arr at key
  have hl : (bS bs).length = bs.length := bS_len bs
  rcases key with ⟨h0, hn⟩ | ⟨pre, a, post, e, h0, ha, hn⟩
  · rw [if_neg, h0]
    intro hlt
    have h1 := ones_stop (bs.drop p)
    have h2 : (bs.drop p)[ones (bs.drop p)]? = some false := by
      have h3 : ones (bs.drop p) < (bs.drop p).length := by rw [List.length_drop]; omega
      rw [List.getElem?_eq_getElem h3] at h1 ⊢
      cases h4 : (bs.drop p)[ones (bs.drop p)] with
      | true => rw [h4] at h1; exact absurd rfl h1
      | false => rfl
    rw [List.getElem?_drop] at h2
    exact hn _ (List.mem_range'_1.mpr ⟨by omega, by rw [hl]; omega⟩) (find_at.mpr h2)
  · obtain ⟨s1, s2, s3⟩ := range'_splitN e
    have ha' := find_at.mp ha
    have eo : ones (bs.drop p) = a - p := by
      refine ones_uniq (fun i hi => ?_) ?_
      · rw [List.getElem?_drop]
        have hx := hn (p + i) (s3 _ (by omega) (by omega))
        rw [find_at] at hx
        have hlt : p + i < bs.length := by
          have := (List.getElem?_eq_some_iff.mp ha').1
          omega
        rw [List.getElem?_eq_getElem hlt] at hx ⊢
        cases hb : bs[p + i] with
        | true => rfl
        | false => rw [hb] at hx; exact absurd rfl hx
      · rw [List.getElem?_drop]
        have : p + (a - p) = a := by omega
        rw [this, ha']
        simp
    have hlt := (List.getElem?_eq_some_iff.mp ha').1
    rw [if_pos (by omega)]
    have h1 : arr.toList[0]? = some a := by simpa using h0
    cases hL : arr.toList with
    | nil => rw [hL] at h1; cases h1
    | cons b t =>
      rw [hL] at h1
      simp at h1
      subst h1
      show ((b : Nat) : Int) = _
      omega
theorem bS_mul1 (k : Nat) : Txt.mul (("1" : String) : Str) (k : Int) = bS (List.replicate k true) := by
  rw [str_one]
  unfold Txt.mul
  by_cases h0 : (k : Int) < 1
  · rw [if_pos h0, show k = 0 by omega]
    rfl
  · rw [if_neg h0]
    by_cases h1 : k = 1
    · subst h1
      rfl
    · rw [if_neg (by
        rw [Bool.or_eq_true, beq_iff_eq, beq_iff_eq, bS_len]
        simp
        omega), Int.toNat_natCast]
      have := reps_list [49] k []
      unfold bS
      rw [List.map_replicate]
      show (⟨(List.replicate k ([49] : List Nat).toArray).foldl (· ++ ·) ([] : List Nat).toArray⟩ : Str) = _
      rw [this, List.nil_append]
      have e : (List.replicate k [49]).flatten = List.replicate k 49 := by
        clear this h0 h1
        induction k with
        | zero => rfl
        | succ k ih => rw [List.replicate_succ, List.flatten_cons, ih, List.replicate_succ]; rfl
      rw [e]
      rfl
theorem bit_int (b : Bool) : PySem.intText? (bS [b]) = some (b.toNat : Int) := by cases b <;> decide +kernel
theorem str_01 : (("01" : String) : Str) = bS [false, true] := by decide +kernel
theorem str_10 : (("10" : String) : Str) = bS [true, false] := by decide +kernel
theorem join_texts (ts : List (List Bool)) : Txt.join (("" : String) : Str) (ts.map bS) = bS ts.flatten := by
  rw [TL.join_eq]
  have e0 : TL.tl ((("" : String) : Str)) = [] := by rw [str_nil]; rfl
  have key : ∀ ts : List (List Bool), TL.joinL [] ((ts.map bS).map TL.tl) = ts.flatten.map sgn := by
    intro ts
    induction ts with
    | nil => rfl
    | cons b r ih =>
      have eb : TL.tl (bS b) = b.map sgn := bS_tl b
      cases r with
      | nil =>
        show TL.tl (bS b) = _
        rw [eb]
        simp
      | cons c q =>
        show TL.tl (bS b) ++ ([] ++ TL.joinL [] (((c :: q).map bS).map TL.tl)) = _
        rw [ih, eb]
        simp
  have h := TL.tl_join (("" : String) : Str) (ts.map bS)
  rw [e0, key] at h
  show _ = (⟨(ts.flatten.map sgn).toArray⟩ : Str)
  rw [← h]
end My

namespace My
open PySem PySem.Spec PyProof.Rows L2 Pre
/-! ### texts of bits: slices, numbers, lists of counts -/
theorem shrN (a k : Nat) : (a : Int) / 2 ^ ((k : Int)).toNat = ((a / 2 ^ k : Nat) : Int) := by
  rw [Int.toNat_natCast, Int.natCast_ediv, Int.natCast_pow]
  rfl
theorem shlN (a k : Nat) : (a : Int) * 2 ^ ((k : Int)).toNat = ((a * 2 ^ k : Nat) : Int) := by
  rw [Int.toNat_natCast, Int.natCast_mul, Int.natCast_pow]
  rfl
theorem and1N (n : Nat) : Builtin.bitAnd (n : Int) 1 = ((n % 2 : Nat) : Int) := by
  rw [bitAnd_m1]
  omega
theorem small4 {n : Nat} (h : n ≤ 100000) : n < sizeLine := by rw [sizeLine_eq]; omega
theorem cut_list {α : Type} (l : List α) (i j : Nat) : (l.drop (min i l.length)).take (min j l.length - min i l.length) = (l.drop i).take (j - i) := by
  rcases Nat.le_total i l.length with h | h
  · rw [Nat.min_eq_left h]
    rcases Nat.le_total j l.length with k | k
    · rw [Nat.min_eq_left k]
    · rw [Nat.min_eq_right k, List.take_of_length_le (l := l.drop i) (i := l.length - i) (by rw [List.length_drop]; exact Nat.le_refl _), List.take_of_length_le (by rw [List.length_drop]; omega)]
  · rw [Nat.min_eq_right h, List.drop_of_length_le (Nat.le_refl _), List.drop_of_length_le h]
    simp
theorem bS_list (bs : List Bool) : (bS bs).cps.toList = bs.map sgn := by unfold bS; simp
theorem cut_bS (bs : List Bool) (i j : Nat) : cutS (bS bs) (some (i : Int)) (some (j : Int)) = bS ((bs.drop i).take (j - i)) := by
  unfold cutS
  rw [HT.sIx_nat, HT.sIx_nat, bS_list, bS_len]
  have h := cut_list (bs.map sgn) i j
  rw [List.length_map] at h
  rw [h, ← List.map_drop, ← List.map_take]
  rfl
theorem cut_bSd (bs : List Bool) (i : Nat) : cutS (bS bs) (some (i : Int)) none = bS (bs.drop i) := by
  unfold cutS
  rw [HT.sIx_nat, HT.sIx_none, bS_list, bS_len]
  have h := cut_list (bs.map sgn) i bs.length
  rw [List.length_map, Nat.min_self] at h
  rw [h, ← List.map_drop, ← List.map_take, List.take_of_length_le (by rw [List.length_drop]; exact Nat.le_refl _)]
  rfl
theorem cut_bSt (bs : List Bool) (j : Nat) : cutS (bS bs) none (some (j : Int)) = bS (bs.take j) := by
  unfold cutS
  rw [HT.sIx_nat, HT.sIx_none, bS_list, bS_len]
  have h := cut_list (bs.map sgn) 0 j
  rw [List.length_map, Nat.zero_min] at h
  rw [h, List.drop_zero, Nat.sub_zero, ← List.map_take]
  rfl
theorem bB_get (n : Nat) : ∀ k i, i < k → (bB n k)[i]? = some (n / 2 ^ (k - 1 - i) % 2 == 1)
  | k + 1, 0, _ => by unfold bB; simp
  | k + 1, i + 1, h => by
    unfold bB
    rw [List.getElem?_cons_succ, bB_get n k i (by omega)]
    have : k - 1 - i = k + 1 - 1 - (i + 1) := by omega
    rw [this]
theorem bit_nat (x : Nat) : x % 2 = (x % 2 == 1).toNat := by
  rcases Nat.mod_two_eq_zero_or_one x with h | h <;> rw [h] <;> rfl
theorem fm_noneN {α β : Type} (l : List α) : (l.map fun _ => (none : Option β)).filterMap id = [] := by
  induction l with
  | nil => rfl
  | cons n r ih => simp
theorem sign_01 (b : Bool) : decide (sgn b ∈ ((("01" : String) : Str)).cps.toList) = true := by
  have e : (("01" : String) : Str).cps.toList = [48, 49] := by decide +kernel
  rw [e]
  cases b <;> decide
/-- a list of counts -/
abbrev nI (fs : List Nat) : List Int := fs.map fun (n : Nat) => (n : Int)
theorem nI_len (fs : List Nat) : ((nI fs).map V.int).length = fs.length := by rw [List.length_map, List.length_map]
theorem nI_at {fs : List Nat} {i : Nat} {x : V} (h : ((nI fs).map V.int)[i]? = some x) : ∃ n : Nat, fs[i]? = some n ∧ x = .int n := by
  obtain ⟨n, hn, rfl⟩ := int_at h
  rw [List.getElem?_map] at hn
  obtain ⟨m, hm, rfl⟩ := Option.map_eq_some_iff.mp hn
  exact ⟨m, hm, rfl⟩
theorem nI_get {fs : List Nat} {i n : Nat} (h : fs[i]? = some n) : ((nI fs).map V.int)[i]? = some (.int n) := by
  rw [List.getElem?_map, List.getElem?_map, h]
  rfl
theorem nI_inj {a b : List Nat} : nI a = nI b ↔ a = b := ⟨fun h => (List.map_inj_right fun x y e => by omega).mp h, fun h => by rw [h]⟩
theorem bool_nat (b : Bool) : (if b = true then (1 : Int) else 0) = ((b.toNat : Nat) : Int) := by cases b <;> rfl
theorem bit_int' (b : Bool) : PySem.intText? (bS [b]) = some (b.toNat : Int) := by cases b <;> decide +kernel
theorem vF_take {bs : List Bool} {i : Nat} {b : Bool} (h : bs[i]? = some b) : vF 0 (bs.take (i + 1)) = 2 * vF 0 (bs.take i) + b.toNat := by
  rw [List.take_add_one, h, vF_app]
  rfl
end My

namespace My
open PySem PySem.Spec PyProof.Rows L2 Pre
/-! ### texts of bits, marks, and what is none -/
/-- what is no text of bits -/
def BadV (K : PySem.W.Frag) (H : Hp) (v : V) : Prop := (∃ z : Str, v = .str z ∧ z.cps.size ≤ 1000 ∧ PyData.strOk z = true ∧ ∃ (j c : Nat), z.cps[j]? = some c ∧ decide (c ∈ ((("01" : String) : Str)).cps.toList) = false) ∨ ∃ T : String, TyX K H v (.type T) ∧ kitB T "str" = some false
def BitsV (K : PySem.W.Frag) (H : Hp) (v : V) (b : Bool) : Prop := (∃ bs : List Bool, v = .str (bS bs) ∧ bs.length ≤ 100000 ∧ b = true) ∨ (BadV K H v ∧ b = false)
def MarkV (K : PySem.W.Frag) (H : Hp) (v : V) (b : Bool) : Prop := (∃ bs : List Bool, v = .str (bS bs) ∧ bs.length ≤ 100000 ∧ b = decide (2 ≤ bs.length ∧ bs.length ≤ 16)) ∨ (BadV K H v ∧ b = false)
theorem strok_at {z : Str} {c : Nat} (h : PyData.strOk z = true) (m : c ∈ z.cps.toList) : PyData.strOk ⟨#[c]⟩ = true := by
  unfold PyData.strOk at h ⊢
  rw [← Array.all_toList, List.all_eq_true] at h
  rw [← Array.all_toList, List.all_eq_true]
  intro d hd
  have e : d = c := by simpa using hd
  rw [e]
  exact h c m
/-- what stands in a bad text, no bit -/
def badL (z : Str) : List (Option PyData) := z.cps.toList.map fun c => if decide (c ∈ ((("01" : String) : Str)).cps.toList) = true then none else some (PyData.str ⟨#[c]⟩)
theorem strs_lay : ∀ {l : List Str}, (∀ x ∈ l, PyData.strOk x = true) → PyData.canLayAll0 (l.map PyData.str) = true ∧ PyData.depthAll (l.map PyData.str) = 0
  | [], _ => ⟨rfl, rfl⟩
  | x :: r, h => by
    obtain ⟨h1, h2⟩ := strs_lay (l := r) fun y hy => h y (List.mem_cons_of_mem _ hy)
    rw [List.map_cons]
    constructor
    · rw [PyData.canLayAll0, h1, PyData.canLay0, h x List.mem_cons_self]
      rfl
    · rw [PyData.depthAll, h2]
      rfl
theorem strs_shaped {l : List Str} (h : ∀ x ∈ l, PyData.strOk x = true) : SeqAt.shaped (.list (l.map PyData.str)) = true := by
  obtain ⟨h1, h2⟩ := strs_lay h
  unfold SeqAt.shaped
  rw [PyData.canLay0, h1, PyData.depth, h2]
  rfl
theorem badL_strs (z : Str) : ∃ l : List Str, (badL z).filterMap id = l.map PyData.str ∧ (PyData.strOk z = true → ∀ x ∈ l, PyData.strOk x = true) ∧ ((∃ (j c : Nat), z.cps[j]? = some c ∧ decide (c ∈ ((("01" : String) : Str)).cps.toList) = false) → l ≠ []) := by
  refine ⟨(z.cps.toList.filter fun c => !decide (c ∈ ((("01" : String) : Str)).cps.toList)).map fun c => ⟨#[c]⟩, ?_, ?_, ?_⟩
  · unfold badL
    generalize z.cps.toList = cs
    induction cs with
    | nil => rfl
    | cons c r ih =>
      rw [List.map_cons, List.filterMap_cons, List.filter_cons]
      by_cases h : decide (c ∈ ((("01" : String) : Str)).cps.toList) = true
      · rw [if_pos h, h, ih]
        rfl
      · rw [if_neg h, Bool.eq_false_iff.mpr h]
        show _ :: _ = _
        rw [ih]
        rfl
  · intro ok x hx
    obtain ⟨c, hc, rfl⟩ := List.mem_map.mp hx
    exact strok_at ok (List.mem_filter.mp hc).1
  · rintro ⟨j, c, hj, hc⟩ e
    have hm : c ∈ z.cps.toList := by
      rw [Array.mem_toList_iff]
      exact Array.mem_of_getElem? hj
    have h2 : c ∈ z.cps.toList.filter (fun c => !decide (c ∈ ((("01" : String) : Str)).cps.toList)) := List.mem_filter.mpr ⟨hm, by rw [hc]; rfl⟩
    rw [List.map_eq_nil_iff] at e
    rw [e] at h2
    cases h2
theorem cut_head (A : List Bool) (z : Bool) : cutS (bS (A ++ [z])) none (some (-1)) = bS A := by
  unfold cutS
  have e : HT.sIx (bS (A ++ [z])).length (bS (A ++ [z])).length (some (-1)) = A.length := by
    show (if (-1 : Int) < 0 then ((-1 : Int) + (((bS (A ++ [z])).length : Nat) : Int)).toNat else min (-1 : Int).toNat (bS (A ++ [z])).length) = _
    rw [if_pos (by decide), bS_len, List.length_append, List.length_singleton]
    omega
  rw [e, HT.sIx_none, bS_list, List.drop_zero, Nat.sub_zero, List.map_append, List.take_append_of_le_length (Nat.le_of_eq (List.length_map sgn).symm), List.take_of_length_le (Nat.le_of_eq (List.length_map sgn))]
  rfl
theorem cut_back (bs : List Bool) (k : Nat) (hk : 0 < k) : cutS (bS bs) (some (-(k : Int))) none = bS (bs.drop (bs.length - k)) := by
  unfold cutS
  have e : HT.sIx (bS bs).length 0 (some (-(k : Int))) = bs.length - k := by
    show (if (-(k : Int)) < 0 then (-(k : Int) + (((bS bs).length : Nat) : Int)).toNat else min (-(k : Int)).toNat (bS bs).length) = _
    rw [if_pos (by omega), bS_len]
    omega
  rw [e, HT.sIx_none, bS_list, bS_len, List.take_of_length_le (by rw [List.length_drop, List.length_map]; exact Nat.le_refl _), ← List.map_drop]
  rfl
theorem at_last (A : List Bool) (z : Bool) : atI (bS (A ++ [z])).cps.toList (-1) = some (sgn z) := by
  rw [bS_list, List.map_append]
  exact atI_last _ _
theorem bS_muls (z : Bool) (k : Nat) : Txt.mul (bS [z]) (k : Int) = bS (List.replicate k z) := by
  cases z with
  | true => rw [← str_one]; exact bS_mul1 k
  | false => rw [← str_zero]; exact bS_mul k
theorem zero_sign (b : Bool) : decide (V.str (bS [b]) = V.str (("0" : String) : Str)) = !b := by
  rw [str_zero, dec_bS]
  cases b <;> rfl
local macro_rules | `(tactic| walk_at "go") => `(tactic| repeat (first | (with_reducible first | refine iteT ?_ | refine iteF ?_ | refine iteNtt ?_ | refine iteNff ?_ | refine iteET (by omega) ?_ | refine iteEF (by omega) ?_ | refine iteENT (by omega) ?_ | refine iteENF (by omega) ?_ | refine iteDT (by omega) ?_ | refine iteDF (by omega) ?_ | refine iteNT (by omega) ?_ | refine iteNF (by omega) ?_) | refine ⟨_, rfl, ?_⟩ | refine ⟨_, _, rfl, rfl, ?_⟩ | refine ⟨_, _, rfl, ?_⟩ | refine ⟨rfl, ?_⟩ | refine .inl ⟨_, rfl, ?_⟩ | refine .inr ⟨_, rfl, ?_⟩))
local macro_rules | `(tactic| walk_at "b") => `(tactic| try dsimp (config := { proj := false, iota := false, eta := false, zeta := false }) only)
section
variable {P : Program} {w : World} {K : PySem.W.Frag} {mg : Str → Option Value} {base : Heap} [pf : Sup.PF P fileS]
def sp_is_bits (K : PySem.W.Frag) : Sp := fun vs H Q _ => ∃ (v : V) (b : Bool), vs = [v] ∧ BitsV K H v b ∧ ∀ H', Same H H' → Q (.bl b) H'
theorem G_is_bits (T : Top K mg) : FnOk P w K mg base CX0 1 T.f_is_bits T.fd_is_bits ["value"] (sp_is_bits K) := by
  refine T.F_is_bits.ok sc_is_bits (fun vs H Q E h => by obtain ⟨v, b, rfl, _⟩ := h; rfl) (fun cdv A outer s H vs Q E hr h => ?_)
  obtain ⟨v, b, rfl, hv, q⟩ := h
  refine ⟨_, PSs.nox (pss_one (ps_ret (pe_and (pe_callB (k_isi K rfl) (by rfl) T.n_isinstance (by decide +kernel) (pa_cons (pv 0) (pa_cons (pe_bltn (v := .ty "str") (by rfl) T.n_str (by decide +kernel) rfl) pa_nil))) (pe_one (pe_cmpR (k_eqD K rfl hr.units) (pe_lc (own := [("sign", 1)]) (g := gName 1) (by rfl) sc_is_bits.nd (pi_str (pv 0)) (blkOk_by (own := [("sign", 1)]) (N := N_is_bits) (sc := defScope s_is_bits) (by decide +kernel)) (fun _ _ _ _ _ => (pg_name (i := 1) sc_is_bits.nd rfl (by first | exact Or.inl rfl | exact Or.inr rfl))) (fun _ _ _ _ _ => (pts_one (pt_cmpR op_notIn_sign (pv 1) pe_str (by rfl)))) (fun _ _ _ _ _ => (pv 1))) (pe_lst pa_nil) (nomark _)))))), ?_⟩
  rcases hv with ⟨bs, rfl, hz, rfl⟩ | ⟨⟨z, rfl, hz, hok, hbad⟩ | ⟨T, ty, hT⟩, rfl⟩
  · refine ⟨_, rfl, _, _, _, _, true, rfl, .ty _, .base (.str _), kit_ty (by decide +kernel), true, rfl, iteT ?_⟩
    refine ⟨_, rfl, _, rfl, fun D nD => ?_⟩
    refine lc_dW walk_str (Has.nil (H := H)) ((List.range bs.length).map fun _ => none) nD (by rw [List.length_map, List.length_range, bS_size]) (by rw [bS_size]; exact small4 hz) (fun _ _ => trivial) ?_ ?_
    · rintro i o H0 x H' hi ho s0 hS ⟨rfl, c, hc, rfl⟩ Qt qt
      obtain ⟨b, hb, ec⟩ := bS_at hc
      rw [ec]
      refine ⟨rfl, ?_⟩
      rw [List.getElem?_map] at ho
      obtain ⟨_, _, rfl⟩ := Option.map_eq_some_iff.mp ho
      refine ⟨_, rfl, sgn b, _, rfl, rfl, _, rfl, ?_⟩
      rw [sign_01]
      exact iteF (qt none _ (Same.refl _) trivial)
    · intro H' s hD hd
      rw [fm_noneN] at hd
      rw [rs_nil] at hd
      obtain ⟨a, xs, e, ha, hx⟩ := hd.listE
      cases e
      cases hx
      refine ⟨Nat.zero_le _, fun p np => ?_⟩
      refine eq_lst (ns := []) (.inl (.inl (same_upd np _ _ ha))) (.inl (.inl upd_same)) ?_
      exact q _ (s.trans (same_upd np))
  · obtain ⟨l, el, hl, hne⟩ := badL_strs z
    refine ⟨_, rfl, _, _, _, _, true, rfl, .ty _, .base (.str _), kit_ty (by decide +kernel), true, rfl, iteT ?_⟩
    refine ⟨_, rfl, _, rfl, fun D nD => ?_⟩
    refine lc_dW walk_str (Has.nil (H := H)) (badL z) nD (by unfold badL; rw [List.length_map, Array.length_toList]) (small4 (by omega)) (fun _ _ => trivial) ?_ ?_
    · rintro i o H0 x H' hi ho s0 hS ⟨rfl, c, hc, rfl⟩ Qt qt
      refine ⟨rfl, ?_⟩
      unfold badL at ho
      rw [List.getElem?_map, Array.getElem?_toList, hc] at ho
      refine ⟨_, rfl, c, _, rfl, rfl, _, rfl, ?_⟩
      by_cases hd : decide (c ∈ ((("01" : String) : Str)).cps.toList) = true
      · rw [Option.map_some, if_pos hd] at ho
        cases ho
        rw [hd]
        exact iteF (qt none _ (Same.refl _) trivial)
      · rw [Option.map_some, if_neg hd] at ho
        cases ho
        rw [Bool.eq_false_iff.mpr hd]
        exact iteT ⟨_, rfl, qt _ _ (Same.refl _) (.str _)⟩
    · intro H' s hD hd
      rw [rs_nil, el] at hd
      refine ⟨Nat.zero_le _, fun p np => ?_⟩
      obtain ⟨a, xs, e, ha, hx⟩ := hd.listE
      cases e
      refine ⟨_, _, (Dt.same (same_upd np) hd).dp, .lst (.inl (.inl upd_same)) .nil, strs_shaped (hl hok), rfl, ?_⟩
      have e0 : PyData.eqv (.list (l.map PyData.str)) (.list []) = false := by
        cases l with
        | nil => exact absurd rfl (hne hbad)
        | cons y r => rfl
      rw [e0]
      exact q _ (s.trans (same_upd np))
  · refine ⟨_, rfl, _, _, _, _, false, rfl, .ty _, ty, kit_ty hT, false, rfl, iteF ?_⟩
    exact q _ (Same.refl _)
def sp_check_bits (K : PySem.W.Frag) (C : Addr) : Sp := fun vs H Q E => ∃ (v : V) (b : Bool), vs = [v] ∧ BitsV K H v b ∧ (b = true → ∀ H', Same H H' → Q .non H') ∧ (b = false → ∀ H' d, Same H H' → H' d = none → E (.ref C) (some d) (upd H' d (.xd [("value", v)])))
def sp_is_mark (K : PySem.W.Frag) : Sp := fun vs H Q _ => ∃ (v : V) (b : Bool), vs = [v] ∧ MarkV K H v b ∧ ∀ H', Same H H' → Q (.bl b) H'
theorem G_is_mark (T : Top K mg) : FnOk P w K mg base CX0 2 T.f_is_mark T.fd_is_mark ["value"] (sp_is_mark K) := by
  refine T.F_is_mark.ok sc_is_mark (fun vs H Q E h => by obtain ⟨v, b, rfl, _⟩ := h; rfl) (fun cdv A outer s H vs Q E hr h => ?_)
  obtain ⟨v, b, rfl, hv, q⟩ := h
  refine ⟨_, PSs.nox (pss_one (ps_ret (pe_and (pe_call (G_is_bits (P := P) T) (hr.mono (by decide)) (by rfl) T.g_is_bits T.F_is_bits.kp T.b_is_bits .nil pass0 (pa_cons (pv 0) pa_nil)) (pe_one (pe_chain op_le op_le pe_int (pe_callB call_len_str (by rfl) T.n_len (by decide +kernel) (pa_cons (pv 0) pa_nil)) (pe_glob (v := .int 16) rfl T.m_MOST_MARK ⟨_, rfl⟩)))))), ?_⟩
  rcases hv with ⟨bs, rfl, hz, rfl⟩ | ⟨hv, rfl⟩
  · refine ⟨_, rfl, _, true, rfl, .inl ⟨bs, rfl, hz, rfl⟩, fun H' s => ⟨true, rfl, iteT ?_⟩⟩
    refine ⟨_, rfl, _, rfl, Nat.le_trans (Nat.le_of_eq (bS_len bs)) (Nat.le_of_lt (small4 hz)), ?_⟩
    rw [bS_len]
    refine ⟨_, _, rfl, rfl, _, rfl, ?_⟩
    by_cases h : 2 ≤ bs.length
    · rw [decide_eq_true (show (2 : Int) ≤ (bs.length : Nat) by omega)]
      refine iteT ⟨_, _, rfl, rfl, ?_⟩
      have e : decide (((bs.length : Nat) : Int) ≤ 16) = decide (2 ≤ bs.length ∧ bs.length ≤ 16) := by
        by_cases h2 : bs.length ≤ 16
        · rw [decide_eq_true (show ((bs.length : Nat) : Int) ≤ 16 by omega), decide_eq_true ⟨h, h2⟩]
        · rw [decide_eq_false (show ¬ ((bs.length : Nat) : Int) ≤ 16 by omega), decide_eq_false fun z => h2 z.2]
      dsimp only
      rw [e]
      exact q _ s
    · rw [decide_eq_false (show ¬ (2 : Int) ≤ (bs.length : Nat) by omega)]
      have := q _ s
      rw [decide_eq_false fun z => h z.1] at this
      exact iteF this
  · exact ⟨_, rfl, _, false, rfl, .inr ⟨hv, rfl⟩, fun H' s => ⟨false, rfl, iteF (q _ s)⟩⟩
def sp_check_mark (K : PySem.W.Frag) (C : Addr) : Sp := fun vs H Q E => ∃ (v : V) (b : Bool), vs = [v] ∧ MarkV K H v b ∧ (b = true → ∀ H', Same H H' → Q .non H') ∧ (b = false → ∀ H' d, Same H H' → H' d = none → E (.ref C) (some d) (upd H' d (.xd [("value", v)])))
theorem G_check_mark (T : Top K mg) : FnOk P w K mg base (L2.CX P w) 3 T.f_check_mark T.fd_check_mark ["mark"] (sp_check_mark K T.C_InvalidMark) := by
  refine T.F_check_mark.ok (CX := L2.CX P w) sc_check_mark (fun vs H Q E h => by obtain ⟨v, b, rfl, _⟩ := h; rfl) (fun cdv A outer s H vs Q E hr h => ?_)
  obtain ⟨v, b, rfl, hv, q1, q2⟩ := h
  refine ⟨_, (pss_one (ps_if (pt_not (pt_val (pe_call (G_is_mark (P := P) T) (hr.mono (by decide)) (by rfl) T.g_is_mark T.F_is_mark.kp T.b_is_mark .nil pass0 (pa_cons (pv 0) pa_nil))))
    (pss_one (ps_raise rfl (takes_of rfl rfl rfl rfl) (pmk_oex T.er_InvalidMark.sup.T T.er_InvalidMark.ini T.er_InvalidMark.ity (G_InvalidMark___init__ (P := P) (CX := CX0) T) (hr.mono (by decide)) T.er_InvalidMark.bnd .nil pass0 (by rfl) T.gc_InvalidMark (pa_cons (pv 0) pa_nil))))
    pss_nil)), ?_⟩
  refine ⟨_, rfl, v, b, rfl, hv, fun H' s => ⟨_, rfl, ?_⟩⟩
  cases b with
  | true => exact iteF (q1 rfl _ s)
  | false => exact iteT ⟨_, rfl, mk_sup fun d nd => q2 rfl _ d s nd⟩
def sp_bit_put_in : Sp := fun vs H Q _ => ∃ (A : List Bool) (z : Bool), vs = [.str (bS (A ++ [z]))] ∧ A.length ≤ 100 ∧ Q (.str (bS [!z])) H
theorem G_bit_put_in (T : Top K mg) : FnOk P w K mg base CX0 1 T.f_bit_put_in T.fd_bit_put_in ["mark"] sp_bit_put_in := by
  refine T.F_bit_put_in.ok sc_bit_put_in (fun vs H Q E h => by obtain ⟨A, z, rfl, _⟩ := h; rfl) (fun cdv A outer s H vs Q E hr h => ?_)
  obtain ⟨A, z, rfl, hz, q⟩ := h
  refine ⟨_, PSs.nox (pss_one (ps_ret (pe_ifExp (pt_cmpR op_eq (pe_ix ix_str (pv 0) (pe_un un_neg pe_int) (fun _ _ => rfl)) pe_str (nomark _)) pe_str pe_str))), ?_⟩
  refine ⟨_, rfl, _, rfl, _, _, sgn z, rfl, rfl, by rw [bS_len, List.length_append, sizeLine_eq]; simp; omega, at_last A z, ?_⟩
  dsimp only
  refine ⟨rfl, _, rfl, ?_⟩
  rw [bS_one, zero_sign]
  cases z with
  | true => exact iteF (by rw [str_zero]; exact q)
  | false => exact iteT (by rw [str_one]; exact q)
end
end My

namespace My
open PySem PySem.Spec PyProof.Rows L2 Pre
/-! ### rows without a mark, in a program -/
/-- what is no mark that can be kept -/
def BadM (K : PySem.W.Frag) (H : Hp) (v : V) : Prop := MarkV K H v false ∨ ∃ (A : List Bool) (z : Bool), v = .str (bS (A ++ [z])) ∧ 1 ≤ A.length ∧ A.length ≤ 15 ∧ A = List.replicate A.length (!z)
theorem mark_true {K : PySem.W.Frag} {H : Hp} {A : List Bool} {z : Bool} (h1 : 1 ≤ A.length) (h2 : A.length ≤ 15) : MarkV K H (.str (bS (A ++ [z]))) true :=
  .inl ⟨A ++ [z], rfl, by rw [List.length_append, List.length_singleton]; omega, (decide_eq_true (by rw [List.length_append, List.length_singleton]; omega)).symm⟩
theorem _root_.L2.TyX.same {K : PySem.W.Frag} {H H' : Hp} {v : V} {t : Value} (s : Same H H') (h : TyX K H v t) : TyX K H' v t := by
  cases h with
  | base b => exact .base (by
    cases b with
    | non => exact .non
    | bl y => exact .bl y
    | int i => exact .int i
    | str y => exact .str y
    | flt y => exact .flt y
    | lst e => exact .lst (s _ _ e)
    | frz e => exact .frz (s _ _ e)
    | tup e => exact .tup (s _ _ e)
    | dK e => exact .dK (s _ _ e)
    | dT e => exact .dT (s _ _ e)
    | ins e cl ha hn htk hm => exact .ins (s _ _ e) cl ha hn htk hm)
  | byt b => exact .byt b
  | set e => exact .set (s _ _ e)
  | kList e c => exact .kList e c
  | kTuple e c => exact .kTuple e c
  | kDict e c => exact .kDict e c
  | fTuple e => exact .fTuple (s _ _ e)
  | fDict e => exact .fDict (s _ _ e)
theorem BadV.same {K : PySem.W.Frag} {H H' : Hp} {v : V} (s : Same H H') (h : BadV K H v) : BadV K H' v := by
  rcases h with h | ⟨T, ty, e⟩
  · exact .inl h
  · exact .inr ⟨T, ty.same s, e⟩
theorem MarkV.same {K : PySem.W.Frag} {H H' : Hp} {v : V} {b : Bool} (s : Same H H') (h : MarkV K H v b) : MarkV K H' v b := by
  rcases h with h | ⟨h, e⟩
  · exact .inl h
  · exact .inr ⟨h.same s, e⟩
theorem BadM.same {K : PySem.W.Frag} {H H' : Hp} {v : V} (s : Same H H') (h : BadM K H v) : BadM K H' v := by
  rcases h with h | h
  · exact .inl (h.same s)
  · exact .inr h
/-- the signs of a row, each a text -/
def sg (t : List Bool) : List V := t.map fun b => V.str (bS [b])
theorem sg_snoc (t : List Bool) (b : Bool) : sg t ++ [V.str (bS [b])] = sg (t ++ [b]) := by unfold sg; rw [List.map_append]; rfl
theorem join_sg {K : PySem.W.Frag} {H : Hp} {a : Addr} {t : List Bool} {Q : VK} (h : H a = some (.lst (sg t))) (hz : t.length ≤ 100000) (q : Q (.str (bS t)) H) :
    ∃ (x : Str) (p : Addr) (ys : List Str), V.str (("" : String) : Str) = V.str x ∧ [V.ref a] = [V.ref p] ∧ (SqL K H p (ys.map V.str) ∨ SqT K H p (ys.map V.str)) ∧ (ys.map fun x => x.length).sum + ys.length * x.length ≤ 16777216 ∧ Q (V.str (Txt.join x ys)) H := by
  refine ⟨_, a, t.map fun b => bS [b], rfl, rfl, .inl (.inl (.inl ?_)), ?_, ?_⟩
  · rw [h, List.map_map]
    rfl
  · have e0 : ((("" : String) : Str)).length = 0 := by rw [str_nil]; rfl
    rw [List.map_map, e0, Nat.mul_zero]
    have : ∀ l : List Bool, (l.map ((fun z : Str => z.length) ∘ fun b => bS [b])).sum = l.length := fun l => by
      induction l with
      | nil => rfl
      | cons b r ih => rw [List.map_cons, List.sum_cons, ih, List.length_cons]; show 1 + _ = _; omega
    have hz2 : (t.map ((fun x : Str => x.length) ∘ fun b => bS [b])).sum = t.length := this t
    exact Nat.le_trans (Nat.le_of_eq hz2) (by omega)
  · rw [join_bits]
    exact q
local macro_rules | `(tactic| walk_at "go") => `(tactic| repeat (first | (with_reducible first | refine iteT ?_ | refine iteF ?_ | refine iteNtt ?_ | refine iteNff ?_ | refine iteET (by omega) ?_ | refine iteEF (by omega) ?_ | refine iteENT (by omega) ?_ | refine iteENF (by omega) ?_ | refine iteDT (by omega) ?_ | refine iteDF (by omega) ?_ | refine iteNT (by omega) ?_ | refine iteNF (by omega) ?_) | refine ⟨_, rfl, ?_⟩ | refine ⟨_, _, rfl, rfl, ?_⟩ | refine ⟨_, _, rfl, ?_⟩ | refine ⟨rfl, ?_⟩ | refine .inl ⟨_, rfl, ?_⟩ | refine .inr ⟨_, rfl, ?_⟩))
local macro_rules | `(tactic| walk_at "b") => `(tactic| try dsimp (config := { proj := false, iota := false, eta := false, zeta := false }) only)
section
variable {P : Program} {w : World} {K : PySem.W.Frag} {mg : Str → Option Value} {base : Heap} [pf : Sup.PF P fileS]
def sp_is_keepable (K : PySem.W.Frag) (C : Addr) : Sp := fun vs H Q E => ∃ v : V, vs = [v] ∧ ((∃ (A : List Bool) (z : Bool), v = .str (bS (A ++ [z])) ∧ 1 ≤ A.length ∧ A.length ≤ 15 ∧ ∀ H', Same H H' → Q (.bl (!decide (A = List.replicate A.length (!z)))) H') ∨
  (MarkV K H v false ∧ ∀ H' d, Same H H' → H' d = none → E (.ref C) (some d) (upd H' d (.xd [("value", v)]))))
theorem G_is_keepable (T : Top K mg) : FnOk P w K mg base (L2.CX P w) 4 T.f_is_keepable T.fd_is_keepable ["mark"] (sp_is_keepable K T.C_InvalidMark) := by
  refine T.F_is_keepable.ok (CX := L2.CX P w) sc_is_keepable (fun vs H Q E h => by obtain ⟨v, rfl, _⟩ := h; rfl) (fun cdv A outer s H vs Q E hr h => ?_)
  obtain ⟨v, rfl, h⟩ := h
  refine ⟨_, (pss_cons (ps_expr (pe_call (G_check_mark (P := P) T) (hr.mono (by decide)) (by rfl) T.g_check_mark T.F_check_mark.kp T.b_check_mark .nil (passes_call (takes_of rfl rfl rfl rfl) (fun _ _ _ _ h => h)) (pa_cons (pv 0) pa_nil)))
  (pss_one (ps_ret (pe_cmpR op_ne (pe_slice sl_str (pv 0) po_none (po_some (pe_un un_neg pe_int))) (pe_op op_rep_str (pe_call (G_bit_put_in (P := P) T) (hr.mono (by decide)) (by rfl) T.g_bit_put_in T.F_bit_put_in.kp T.b_bit_put_in .nil pass0 (pa_cons (pv 0) pa_nil)) (pe_op op_sub (pe_callB call_len_str (by rfl) T.n_len (by decide +kernel) (pa_cons (pv 0) pa_nil)) pe_int)) (nomark _))))), ?_⟩
  rcases h with ⟨A, z, rfl, h1, h2, q⟩ | ⟨hv, q⟩
  · refine ⟨_, rfl, _, true, rfl, mark_true h1 h2, fun _ H' s => ?_, (fun z => nomatch z)⟩
    have hl : (bS (A ++ [z])).length = A.length + 1 := by rw [bS_len, List.length_append, List.length_singleton]
    refine ⟨_, rfl, _, rfl, _, rfl, _, rfl, by rw [hl, sizeLine_eq]; omega, ?_⟩
    rw [cut_head]
    refine ⟨_, rfl, A, z, rfl, by omega, ?_⟩
    refine ⟨_, rfl, _, rfl, by rw [hl, sizeLine_eq]; omega, _, _, rfl, rfl, ?_⟩
    dsimp only
    rw [hl, show (((A.length + 1 : Nat) : Int) - 1) = ((A.length : Nat) : Int) by omega]
    refine ⟨_, A.length, rfl, rfl, by rw [bS_len]; show 1 ≤ 100; decide, by omega, ?_⟩
    rw [bS_muls]
    refine ⟨rfl, ?_⟩
    rw [dec_bS]
    exact q _ s
  · refine ⟨_, rfl, _, false, rfl, hv, (fun z => nomatch z), fun _ H' d s nd => q H' d s nd⟩
def sp_check_keepable (K : PySem.W.Frag) (C : Addr) : Sp := fun vs H Q E => ∃ v : V, vs = [v] ∧ ((∃ (A : List Bool) (z : Bool), v = .str (bS (A ++ [z])) ∧ 1 ≤ A.length ∧ A.length ≤ 15 ∧ Keep A z ∧ ∀ H', Same H H' → Q .non H') ∨
  (BadM K H v ∧ ∀ H' d, Same H H' → H' d = none → E (.ref C) (some d) (upd H' d (.xd [("value", v)]))))
theorem G_check_keepable (T : Top K mg) : FnOk P w K mg base (L2.CX P w) 5 T.f_check_keepable T.fd_check_keepable ["mark"] (sp_check_keepable K T.C_InvalidMark) := by
  refine T.F_check_keepable.ok (CX := L2.CX P w) sc_check_keepable (fun vs H Q E h => by obtain ⟨v, rfl, _⟩ := h; rfl) (fun cdv A outer s H vs Q E hr h => ?_)
  obtain ⟨v, rfl, h⟩ := h
  refine ⟨_, (pss_cons (ps_expr (pe_call (G_check_mark (P := P) T) (hr.mono (by decide)) (by rfl) T.g_check_mark T.F_check_mark.kp T.b_check_mark .nil (passes_call (takes_of rfl rfl rfl rfl) (fun _ _ _ _ h => h)) (pa_cons (pv 0) pa_nil)))
  (pss_one (ps_if (pt_not (pt_val (pe_call (G_is_keepable (P := P) T) (hr.mono (by decide)) (by rfl) T.g_is_keepable T.F_is_keepable.kp T.b_is_keepable .nil (passes_call (takes_of rfl rfl rfl rfl) (fun _ _ _ _ h => h)) (pa_cons (pv 0) pa_nil))))
    (pss_one (ps_raise rfl (takes_of rfl rfl rfl rfl) (pmk_oex T.er_InvalidMark.sup.T T.er_InvalidMark.ini T.er_InvalidMark.ity (G_InvalidMark___init__ (P := P) (CX := CX0) T) (hr.mono (by decide)) T.er_InvalidMark.bnd .nil pass0 (by rfl) T.gc_InvalidMark (pa_cons (pv 0) pa_nil))))
    pss_nil))), ?_⟩
  rcases h with ⟨A, z, rfl, h1, h2, hk, q⟩ | ⟨hv | ⟨A, z, rfl, h1, h2, hk⟩, q⟩
  · refine ⟨_, rfl, _, true, rfl, mark_true h1 h2, fun _ H' s => ?_, (fun z => nomatch z)⟩
    refine ⟨_, rfl, _, rfl, .inl ⟨A, z, rfl, h1, h2, fun H2 s2 => ⟨_, rfl, ?_⟩⟩⟩
    rw [decide_eq_false hk.2]
    exact iteF (q _ (s.trans s2))
  · exact ⟨_, rfl, _, false, rfl, hv, (fun z => nomatch z), fun _ H' d s nd => q H' d s nd⟩
  · refine ⟨_, rfl, _, true, rfl, mark_true h1 h2, fun _ H' s => ?_, (fun z => nomatch z)⟩
    refine ⟨_, rfl, _, rfl, .inl ⟨A, z, rfl, h1, h2, fun H2 s2 => ⟨_, rfl, ?_⟩⟩⟩
    rw [decide_eq_true hk]
    exact iteT ⟨_, rfl, mk_sup fun d nd => q _ d (s.trans s2) nd⟩
theorem lastK_len (A t : List Bool) : (lastK A t).length ≤ A.length := by unfold lastK; rw [List.length_drop]; omega
theorem cut_last {A t : List Bool} {b : Bool} (h1 : 1 ≤ A.length) : cutS (bS (lastK A t) ++ bS [b]) (some (1 - ((A.length + 1 : Nat) : Int))) none = bS (lastK A (t ++ [b])) := by
  rw [show (1 - ((A.length + 1 : Nat) : Int)) = -((A.length : Nat) : Int) by omega, bS_app, cut_back _ _ (by omega), lastK_snoc]
theorem last_is (A t : List Bool) : decide (V.str (bS (lastK A t)) = V.str (bS A)) = decide (A <:+ t) := by
  rw [dec_bS]
  by_cases h : A <:+ t
  · rw [decide_eq_true h, decide_eq_true ((lastK_iff A t).mpr h)]
  · rw [decide_eq_false h, decide_eq_false fun z => h ((lastK_iff A t).mp z)]
def sp_stuffed (K : PySem.W.Frag) (C B : Addr) : Sp := fun vs H Q E => ∃ v u : V, vs = [v, u] ∧ ((∃ (A : List Bool) (z : Bool), v = .str (bS (A ++ [z])) ∧ 1 ≤ A.length ∧ A.length ≤ 15 ∧ Keep A z ∧
    ((∃ bs : List Bool, u = .str (bS bs) ∧ bs.length ≤ 10000 ∧ ∀ H', Same H H' → Q (.str (bS (stuff A z bs))) H') ∨ ((∀ H', Same H H' → BitsV K H' u false) ∧ ∀ H' d, Same H H' → H' d = none → E (.ref B) (some d) (upd H' d (.xd [("value", u)]))))) ∨
  (BadM K H v ∧ ∀ H' d, Same H H' → H' d = none → E (.ref C) (some d) (upd H' d (.xd [("value", v)]))))
/-- what stands behind: the row, or none -/
def optV : Option (List Bool) → V
  | some x => .str (bS x)
  | none => .non
theorem baG_nil (A : List Bool) (z : Bool) (t o : List Bool) : baG A z t o [] = if A <:+ t then none else some o := rfl
theorem baG_cons (A : List Bool) (z : Bool) (t o : List Bool) (b : Bool) (r : List Bool) : baG A z t o (b :: r) = if A <:+ t then (if b = !z then baG A z (t ++ [b]) o r else none) else baG A z (t ++ [b]) (o ++ [b]) r := rfl
def sp_bared : Sp := fun vs H Q _ => ∃ (A : List Bool) (z : Bool) (bs : List Bool), vs = [.str (bS (A ++ [z])), .str (bS bs)] ∧ 1 ≤ A.length ∧ A.length ≤ 15 ∧ bs.length ≤ 10000 ∧ ∀ H', Same H H' → Q (optV (bareO A z bs)) H'
def sp_bare (K : PySem.W.Frag) (C B : Addr) : Sp := fun vs H Q E => ∃ v u : V, vs = [v, u] ∧ ((∃ (A : List Bool) (z : Bool), v = .str (bS (A ++ [z])) ∧ 1 ≤ A.length ∧ A.length ≤ 15 ∧ Keep A z ∧
    ((∃ bs : List Bool, u = .str (bS bs) ∧ bs.length ≤ 10000 ∧ (∀ x, bareO A z bs = some x → ∀ H', Same H H' → Q (.str (bS x)) H') ∧ (bareO A z bs = none → ∀ H' d, Same H H' → H' d = none → E (.ref B) (some d) (upd H' d (.xd [("value", u)])))) ∨
      ((∀ H', Same H H' → BitsV K H' u false) ∧ ∀ H' d, Same H H' → H' d = none → E (.ref B) (some d) (upd H' d (.xd [("value", u)]))))) ∨
  (BadM K H v ∧ ∀ H' d, Same H H' → H' d = none → E (.ref C) (some d) (upd H' d (.xd [("value", v)]))))
def sp_growth (K : PySem.W.Frag) (C B : Addr) : Sp := fun vs H Q E => ∃ v u : V, vs = [v, u] ∧ ((∃ (A : List Bool) (z : Bool), v = .str (bS (A ++ [z])) ∧ 1 ≤ A.length ∧ A.length ≤ 15 ∧ Keep A z ∧
    ((∃ bs : List Bool, u = .str (bS bs) ∧ bs.length ≤ 10000 ∧ ∀ H', Same H H' → Q (.int (((stuff A z bs).length : Int) - (bs.length : Int))) H') ∨ ((∀ H', Same H H' → BitsV K H' u false) ∧ ∀ H' d, Same H H' → H' d = none → E (.ref B) (some d) (upd H' d (.xd [("value", u)]))))) ∨
  (BadM K H v ∧ ∀ H' d, Same H H' → H' d = none → E (.ref C) (some d) (upd H' d (.xd [("value", v)]))))
end
end My

namespace My
open PySem PySem.Spec PyProof.Rows L2 Pre
/-! ### texts of bits in texts of bits -/
theorem map_sgn {a b : List Bool} (h : a.map sgn = b.map sgn) : a = b := (List.map_inj_right fun x y e => sgn_inj e).mp h
theorem sub_bS (w a : List Bool) (i : Nat) : Builtin.Str.subAt (bS w) (bS a) i = decide ((w.drop i).take a.length = a) := by
  rw [StrLaws.subAt_eq, bS_list, bS_list, bS_len, ← List.map_drop, ← List.map_take]
  by_cases h : (w.drop i).take a.length = a
  · rw [h, decide_eq_true rfl]
    exact beq_self_eq_true _
  · rw [decide_eq_false h]
    exact beq_eq_false_iff_ne.mpr fun e => h (map_sgn e)
theorem in_bS (w a : List Bool) : (!(Builtin.Str.occurrences (bS w) (bS a) 0 (bS w).length 1).isEmpty) = decide (a <:+: w) := by
  have h := StrLaws.found_iff (bS w) (bS a)
  by_cases hi : a <:+: w
  · rw [decide_eq_true hi]
    refine h.mpr ?_
    obtain ⟨u, v, e⟩ := hi
    refine ⟨u.length, ?_, ?_⟩
    · rw [bS_len, bS_len, ← e, List.length_append, List.length_append]
      omega
    · rw [sub_bS]
      refine decide_eq_true ?_
      rw [← e, List.append_assoc, List.drop_left, List.take_left]
  · rw [decide_eq_false hi]
    rw [Bool.eq_false_iff]
    intro z
    obtain ⟨i, h1, h2⟩ := h.mp z
    rw [sub_bS] at h2
    refine hi ⟨w.take i, (w.drop i).drop a.length, ?_⟩
    have := of_decide_eq_true h2
    conv => lhs; rw [← this]
    rw [this, List.append_assoc]
    conv => rhs; rw [← List.take_append_drop i w, ← List.take_append_drop a.length (w.drop i), this]
theorem ends_bS (w a : List Bool) : Txt.endswith (bS w) (bS a) = decide (a <:+ w) := by
  show (decide (0 + (bS a).length ≤ (bS w).length) && Builtin.Str.subAt (bS w) (bS a) ((bS w).length - (bS a).length)) = _
  rw [sub_bS, bS_len, bS_len]
  by_cases h : a <:+ w
  · rw [decide_eq_true h]
    obtain ⟨u, e⟩ := h
    rw [decide_eq_true (show 0 + a.length ≤ w.length by rw [← e, List.length_append]; omega), Bool.true_and]
    refine decide_eq_true ?_
    rw [← e, List.length_append, show u.length + a.length - a.length = u.length by omega, List.drop_left, List.take_length]
  · rw [decide_eq_false h]
    by_cases hl : 0 + a.length ≤ w.length
    · rw [decide_eq_true hl]
      refine decide_eq_false fun e => h ⟨w.take (w.length - a.length), ?_⟩
      have : (w.drop (w.length - a.length)).take a.length = w.drop (w.length - a.length) := List.take_of_length_le (by rw [List.length_drop]; omega)
      rw [this] at e
      conv => lhs; rw [← e]
      rw [List.length_drop, show w.length - (w.length - (w.length - a.length)) = w.length - a.length by omega]
      exact List.take_append_drop _ _
    · rw [decide_eq_false hl]
      rfl
theorem starts_bS (w a : List Bool) : Txt.startswith (bS w) (bS a) = decide (a <+: w) := by
  show (decide (0 + (bS a).length ≤ (bS w).length) && Builtin.Str.subAt (bS w) (bS a) 0) = _
  rw [sub_bS, bS_len, bS_len, List.drop_zero]
  by_cases h : a <+: w
  · rw [decide_eq_true h]
    obtain ⟨u, e⟩ := h
    rw [decide_eq_true (show 0 + a.length ≤ w.length by rw [← e, List.length_append]; omega), Bool.true_and]
    refine decide_eq_true ?_
    rw [← e, List.take_left]
  · rw [decide_eq_false h]
    by_cases hl : 0 + a.length ≤ w.length
    · rw [decide_eq_true hl]
      refine decide_eq_false fun e => h ⟨w.drop a.length, ?_⟩
      conv => lhs; rw [← e]
      rw [e]
      conv => rhs; rw [← List.take_append_drop a.length w, e]
    · rw [decide_eq_false hl]
      rfl
theorem reps_bS (x : List Bool) (k : Nat) : Txt.mul (bS x) (k : Int) = bS (List.replicate k x).flatten := by
  have key : ∀ (k : Nat) (acc : List Bool), (List.replicate k (bS x).cps).foldl (· ++ ·) (bS acc).cps = (bS (acc ++ (List.replicate k x).flatten)).cps := by
    intro k
    induction k with
    | zero => intro acc; simp
    | succ k ih =>
      intro acc
      rw [List.replicate_succ, List.foldl_cons, List.replicate_succ, List.flatten_cons, ← List.append_assoc]
      have : (bS acc).cps ++ (bS x).cps = (bS (acc ++ x)).cps := congrArg Str.cps (bS_app acc x)
      rw [this]
      exact ih _
  unfold Txt.mul
  by_cases h0 : (k : Int) < 1
  · rw [if_pos h0, show k = 0 by omega]
    rfl
  · rw [if_neg h0]
    by_cases h1 : (((k : Int) == 1) || (bS x).length == 0) = true
    · rw [if_pos h1]
      rw [Bool.or_eq_true, beq_iff_eq, beq_iff_eq, bS_len] at h1
      rcases h1 with h1 | h1
      · rw [show k = 1 by omega]
        simp
      · rw [List.length_eq_zero_iff.mp h1]
        congr 1
        clear h0 h1 key
        induction k with
        | zero => rfl
        | succ k ih => rw [List.replicate_succ, List.flatten_cons, ← ih]; rfl
    · rw [if_neg h1, Int.toNat_natCast]
      have := key k []
      rw [List.nil_append] at this
      exact congrArg Str.mk this
end My

namespace My
open PySem PySem.Spec PyProof.Rows L2 Pre
/-! ### promises for callers that stand in no repr: within them repr of lists shows its items -/
structure FnG (P : Program) (w : World) (K : PySem.W.Frag) (mg : Str → Option Value) (base : Heap) (CX : CXT) (k : Nat) (f : Addr) (fd : FuncData) (ps : List Str) (sp : Sp) : Prop where
  many : ∀ xs H Q E, sp xs H Q E → xs.length = ps.length
  does : ∀ (A : Around), A.guards = some [] → Room k A → ∀ (fr : List Env) (t : Shared) (H : Hp), Env0 P w K mg base A fr t H → ∀ (ar : Args) (us : List Value) (xs : List V), BindsTo t fd ar (ps.zip us) → Vals xs us →
    ∀ (Q : VK) (E : XK), sp xs H Q E → codeAny (model P w) A (.call (.ref f) ar) (CR CX fr P w H t Q E) t
section
variable {P : Program} {w : World} {K : PySem.W.Frag} {mg : Str → Option Value} {base : Heap} {CX : CXT} {k : Nat} {f : Addr} {fd : FuncData} {ps : List Str} {sp : Sp}
theorem FnG.of (F : FnOk P w K mg base CX k f fd ps sp) : FnG P w K mg base CX k f fd ps sp :=
  ⟨F.len, fun A _ hr fr t H e ar us xs b v Q E h => F.run A fr t H ar us xs Q E hr e b v h⟩
/-- a body makes a promise -/
theorem FnG.body {x qual : Str} {pr : Arguments} {bd : List Stmt} {sc : Scope} {dvs : List V} {kws : List (Str × V)} {N : List Str} (F : FunD K x qual pr bd sc dvs kws f fd) (S : FnScope N ps sc) (hm : ∀ xs H Q E, sp xs H Q E → xs.length = ps.length)
    (go : ∀ (cv : Value) (A : Around) (fr : List Env) (t : Shared) (H : Hp) (xs : List V) (Q : VK) (E : XK), A.guards = some [] → Room k (A.deeper (envOfC qual sc t.heap.objs.size f cv)) → sp xs H Q E →
      ∃ τ, PSs (cxOf CX P w K mg base N qual sc f cv A fr t H E) bd τ ∧ τ { nx := fun _ H1 => Q .non H1, rt := Q } (start N xs) H) : FnG P w K mg base CX (k + 1) f fd ps sp := by
  obtain ⟨c0, d0, dv, kv, dc, pm, an, cv, ct, sl, rfl, lk, hcode, _, _⟩ := F.ex
  refine ⟨hm, fun A gd hr fr t H e0 ar us xs hb rv Q E hs => ?_⟩
  have hin : K.In t.heap := e0.mod.kin.keeps fun b o z => (e0.bs b o z).1
  have hno : t.heap.NoLimit := e0.mod.nolimit.keeps fun b o z => (e0.bs b o z).1
  refine codeAny_call_function hr.depth (hin _ _ lk) rfl S.co S.gen rfl (PySem.W.codeRec_of hin hcode) (hb _ _ _ _ ?_)
  refine wpAny_newFunctionEnv_cells S.kind (fun y hy => ?_) fun env he t1 hx => ?_
  · obtain ⟨n, u⟩ := y
    rcases S.par n (List.of_mem_zip hy).1 with z | z
    · exact Or.inl z
    · exact Or.inr ⟨z, PySem.W.cellsFrom_some _ _ _ (Or.inl z)⟩
  · subst he
    refine ⟨hno.keeps hx.toInCall.keep, codeAny_func ?_⟩
    obtain ⟨τ, hτ, hq⟩ := go cv A fr t H xs Q E gd (hr.deeper _) hs
    have J := inv_start (CX := CX) (E := E) S hr.hd e0 (hm _ _ _ _ hs) rv hx
    refine wpAny_mono (hτ.run [] t1 (start N xs) H _ J hq) (fun fl t2 h2 => ?_) fun _ _ z => z
    cases fl with
    | brk => exact False.elim h2.choose_spec.choose_spec.2
    | cont => exact False.elim h2.choose_spec.choose_spec.2
    | next =>
      obtain ⟨σ2, H2, J2, q2⟩ := h2
      exact ⟨V.non, H2, J2.os, J2.bare, J2.base, J2.hok, rfl, q2⟩
    | ret u =>
      obtain ⟨v2, σ2, H2, J2, r2, q2⟩ := h2
      exact ⟨v2, H2, J2.os, J2.bare, J2.base, J2.hok, r2, q2⟩
end
section
variable {X : Cx} {CX : CXT} {k : Nat} {f : Addr} {fd : FuncData} {ps : List Str} {sp : Sp} {dvs : List V} {ds : List Value} {E : XK} {x : Str} {p pos : Pos} {e : Expr} {es : List Expr} {t : TA}
theorem go_g {pins : List (Addr × Obj)} {σ : L2.St} {H : Hp} {s : Shared} {Q : VK} {us : List Value} {xs : List V} (F : FnG X.prog X.w X.K X.mg X.base CX k f fd ps sp) (gd : X.A.guards = some []) (hr : Room k X.A) (hb : Binds X.K fd ps ds) (hd : Vals dvs ds)
    (hx : Passes CX X E) (I : Inv X pins σ H s) (r : Vals xs us) (h : sp (xs ++ dvs) H Q E) : wpAny (model X.prog X.w) X.A (call (.ref f) us) (EP X pins σ Q) X.xe s := by
  have rr := Vals.append r hd
  refine wpAny_call (codeAny_mono (F.does X.A gd hr X.stack s H I.env0 ⟨us, []⟩ (us ++ ds) (xs ++ dvs) (hb s us I.kIn (by rw [← rr.length]; exact F.many _ _ _ _ h)) rr Q E h) fun z s2 hz => ?_)
  match z, hz with
  | .error e, hz => exact hx pins σ H s e s2 I hz
  | .ok (.ret u), hz => exact I.after hz
theorem pe_callG (F : FnG X.prog X.w X.K X.mg X.base CX k f fd ps sp) (gd : X.A.guards = some []) (hr : Room k X.A) (hg : Gl X x) (hm : X.mg x = some (.ref f)) (hk : PySem.W.keepIn X.K (.ref f) = true) (hb : Binds X.K fd ps ds) (hd : Vals dvs ds) (hx : Passes CX X E)
    (ha : PA X (e :: es) t) (hdb : (x == ("__debug__" : Str)) = false := by decide) (he : starEach (e :: es) X.env = (false, eval e X.env) :: starEach es X.env := by rfl) (hpl : (backTo pos (starEach es X.env)).any (·.1) = false := by rfl) :
    PE X (.Call (.Name x p) (e :: es) [] pos) (tCall sp dvs E t) :=
  ⟨fun pins s σ H Q I h => wpAny_Call_Name_kw (ld_glob I hg hm (PySem.W.callWith_K (h₀ := X.base) I.ok.mod.kin hk (thn (ha.run pos pins s σ H _ I h) fun us s1 ⟨vs, H1, J, r, q⟩ => ⟨J.kIn, go_g F gd hr hb hd hx J r q⟩) he hpl) hdb)⟩
theorem pe_callG0 (F : FnG X.prog X.w X.K X.mg X.base CX k f fd ps sp) (gd : X.A.guards = some []) (hr : Room k X.A) (hg : Gl X x) (hm : X.mg x = some (.ref f)) (hk : PySem.W.keepIn X.K (.ref f) = true) (hb : Binds X.K fd ps ds) (hd : Vals dvs ds) (hx : Passes CX X E)
    (hdb : (x == ("__debug__" : Str)) = false := by decide) : PE X (.Call (.Name x p) [] [] pos) (tCall sp dvs E tNil) :=
  ⟨fun pins s σ H Q I h => wpAny_Call_Name_kw (ld_glob I hg hm (PySem.W.callWith_K0 I.kIn hk (go_g (us := []) F gd hr hb hd hx I .nil h)) hdb)⟩
end
/-! ### repr -/
def rRepr (K : PySem.W.Frag) : List V → Hp → VK → Prop := fun xs H Q => ∃ (x : V) (d : PyData), xs = [x] ∧ Dp K H x d ∧ d.showable = true ∧ SeqAt.shaped d = true ∧ d.shown.length ≤ sizeLine ∧ Q (.str d.shown) H
theorem call_repr {X : Cx} (gd : X.A.guards = some []) (hu : X.A.units + 65 < cLine) : CallR X (.builtin "repr") (rRepr X.K) := by
  intro pins s σ H xs us Q I r h
  obtain ⟨x, d, rfl, hd, hs, hsh, hl, q⟩ := h
  cases r with
  | cons rx rr =>
    cases rr
    rename_i u
    have hlay : d.canLay0 = true := SeqAt.canLay_of_shaped hsh
    have hdep : d.depth ≤ 64 := by
      have z : (d.canLay0 && decide (d.depth ≤ 64)) = true := hsh
      exact of_decide_eq_true (Bool.and_eq_true_iff.mp z).2
    obtain ⟨as, rd⟩ := Dp.reads I d x u hd rx
    have fin : ∀ h' v tk, (∀ b o, s.heap.get? b = some o → h'.get? b = some o) → EP X pins σ Q (.str d.shown v) { s with heap := h', toks := tk } := fun h' v tk hk => ⟨.str d.shown, H, I.kept hk, ⟨v, rfl⟩, q⟩
    cases hd with
    | non => cases rx; exact PySem.P.repr_of_none (fin _ _ _ fun _ _ z => z)
    | bl b => cases rx; exact PySem.P.repr_of_bool (fin _ _ _ fun _ _ z => z)
    | int i => obtain ⟨t, rfl⟩ := rx; exact PySem.P.repr_of_int (of_decide_eq_true hs) (fin _ _ _ fun _ _ z => z)
    | str y => obtain ⟨t, rfl⟩ := rx; exact PySem.P.repr_of_str (fin _ _ _ fun _ _ z => z) hl
    | lst _ _ => cases rx; exact repr_of_reads' rd hs (PyData.noDict_hsm (PyData.hasDict_of_canLay _ hlay)) gd (by omega) (fun _ _ z => z) fin hl
    | tup _ _ => cases rx; exact repr_of_reads' rd hs (PyData.noDict_hsm (PyData.hasDict_of_canLay _ hlay)) gd (by omega) (fun _ _ z => z) fin hl
theorem k_repr {X : Cx} (K : PySem.W.Frag) (h : X.K = K) (gd : X.A.guards = some []) (hu : X.A.units + 65 < cLine) : CallR X (.builtin "repr") (rRepr K) := by subst h; exact call_repr gd hu
theorem hu65 {k : Nat} {A : Around} (r : Room k A) : A.units + 65 < cLine := by have := r.un; omega
/-- rows of whole numbers, shown -/
theorem dp_ints {K : PySem.W.Frag} {H : Hp} : ∀ ns : List Int, DpAll K H (ns.map V.int) (ns.map PyData.int)
  | [] => .nil
  | n :: ns => .cons (.int n) (dp_ints ns)
theorem dp_row {K : PySem.W.Frag} {H : Hp} {a : Addr} {ns : List Int} (h : SqL K H a (ns.map V.int)) : Dp K H (.ref a) (.list (ns.map PyData.int)) := .lst h (dp_ints ns)
def shownR (ns : List Int) : Str := PyData.shown (.list (ns.map PyData.int))
theorem ints_lay : ∀ ns : List Int, PyData.canLayAll0 (ns.map PyData.int) = true
  | [] => rfl
  | n :: ns => by simp [PyData.canLayAll0, PyData.canLay0, ints_lay ns]
theorem ints_depth : ∀ ns : List Int, PyData.depthAll (ns.map PyData.int) ≤ 1
  | [] => by simp [PyData.depthAll]
  | n :: ns => by
    have := ints_depth ns
    simp only [List.map_cons, PyData.depthAll, PyData.depth]
    omega
theorem row_shaped (ns : List Int) : SeqAt.shaped (.list (ns.map PyData.int)) = true := by
  have h := ints_depth ns
  show (PyData.canLay0 (.list (ns.map PyData.int)) && decide (PyData.depth (.list (ns.map PyData.int)) ≤ 64)) = true
  rw [Bool.and_eq_true]
  exact ⟨by simp only [PyData.canLay0]; exact ints_lay ns, decide_eq_true (by simp only [PyData.depth]; omega)⟩
theorem ints_show : ∀ ns : List Int, (∀ n ∈ ns, n.natAbs.log2 < 1920) → PyData.showableAll (ns.map PyData.int) = true
  | [], _ => rfl
  | n :: ns, h => by
    simp only [List.map_cons, PyData.showableAll, PyData.showable]
    rw [decide_eq_true (h n List.mem_cons_self), ints_show ns fun m hm => h m (List.mem_cons_of_mem _ hm)]
    rfl
/-! ### sorted, any number -/
theorem k_sortedI {X : Cx} (K : PySem.W.Frag) (h : X.K = K) : CallR X (.builtin "sorted") (rSortedI K) := by subst h; exact cr_sortedI
def rSortedA (K : PySem.W.Frag) : List V → Hp → VK → Prop := fun vs H Q => ∃ (a : Addr) (xs : List Str), vs = [V.ref a] ∧ SqL K H a (xs.map V.str) ∧ ∀ (ys : List Str) (p : Addr), ys.Perm xs → sortedS ys = true → H p = none → Q (.ref p) (upd H p (.lst (ys.map V.str)))
theorem k_sortedS {X : Cx} (K : PySem.W.Frag) (h : X.K = K) : CallR X (.builtin "sorted") (rSortedA K) := by
  subst h
  intro pins s σ H vs us Q I r h
  obtain ⟨a, xs, rfl, hs, q⟩ := h
  obtain ⟨its, rv, hl, hz⟩ := I.list hs
  rw [Vals.ref1 r]
  refine sorted_strsAny hl.isList rv.strs (by rw [← rv.length]; exact hz) fun out ys h1 h2 h3 => ?_
  obtain ⟨ep, at_⟩ := sortedAll_at s.heap its out
  refine ⟨.ref _, upd H (s.heap.objs.size + 1) (.lst (ys.map V.str)), I.laid (t' := s.toks) (fun _ _ => sortedAll_old) (Nat.le_succ _) ⟨?_, out.toList, ep, vals_of_strs h1, at_⟩, rfl, q ys _ h2 h3 (I.hok.fresh (Nat.le_succ _))⟩
  rw [List.length_map, h2.length_eq]
  rw [List.length_map] at hz
  exact hz
theorem sorted_le : ∀ (l : List Str) (p : Str), risingS p l = true → (p :: l).Pairwise fun x y => x.cps.toList ≤ y.cps.toList
  | [], p, _ => List.pairwise_singleton _ _
  | x :: r, p, h => by
    obtain ⟨h1, h2⟩ := Bool.and_eq_true_iff.mp (show (!ltCps x.cps.toList p.cps.toList && risingS x r) = true from h)
    have hpx : p.cps.toList ≤ x.cps.toList := by
      rw [ltCps_eq] at h1
      intro z
      rw [decide_eq_true z] at h1
      cases h1
    have ih := sorted_le r x h2
    refine List.pairwise_cons.mpr ⟨fun y hy => ?_, ih⟩
    rcases List.mem_cons.mp hy with rfl | hy
    · exact hpx
    · exact List.le_trans hpx ((List.pairwise_cons.mp ih).1 y hy)
theorem sorted_uniq {xs ys : List Str} (h : xs.Perm ys) (hx : sortedS xs = true) (hy : sortedS ys = true) : xs = ys := by
  have pw : ∀ l : List Str, sortedS l = true → l.Pairwise fun x y => x.cps.toList ≤ y.cps.toList := fun l hl => by
    cases l with
    | nil => exact .nil
    | cons x r => exact sorted_le r x hl
  refine List.Perm.eq_of_pairwise (fun x y _ _ h1 h2 => ?_) (pw _ hx) (pw _ hy) h
  have e := List.le_antisymm h1 h2
  cases x with | mk a => cases y with | mk b => exact congrArg Str.mk (Array.toList_inj.mp e)
end My

namespace My
open PySem PySem.Spec PyProof.Rows L2 Pre
/-! ### the end of a law whose promise stands in no repr -/
/-- the script, tracked or one of the module's own objects -/
theorem script_env {P : Program} {w : World} {K : PySem.W.Frag} {mg mb : Str → Option Value} {a : Addr} {t : Shared} {us : List Value} {ns : List Int} (hin : K.In t.heap) (hgl : t.heap.Ns mainGlobals mg) (hbl : t.heap.Ns builtinsNs mb)
    (hbo : ∀ x : Str, x ≠ "__name__" → mb x = bootBuiltins x) (hno : t.heap.NoLimit) (hgs : t.gens = #[]) (at_a : t.heap.get? a = some { cls := .type "list", data := .seq us.toArray }) (ints_ : IntsAre us ns) (few : ns.length ≤ sizeLine) :
    ∃ (H : Hp) (base : Heap), Only H ∧ SqL K H a (ns.map V.int) ∧ K.In base ∧ base.Ns mainGlobals mg ∧ Env0 P w K mg base callerA [] t H := by
  have rv := vals_ints ints_
  have ul := ints_.length
  -- the module and the rest of the heap, whatever is tracked at a alone
  have rest : ∀ H : Hp, Only H → (∀ b, b ≠ a → H b = none) → (H a = none ∨ K.lookup a = none) → HOk P w H t.heap → SqL K H a (ns.map V.int) → ∃ (H : Hp) (base : Heap), Only H ∧ SqL K H a (ns.map V.int) ∧ K.In base ∧ base.Ns mainGlobals mg ∧ Env0 P w K mg base callerA [] t H := by
    intro H h1 h2 h3 h4 h5
    have dictFree : ∀ b o, t.heap.get? b = some o → (∃ es n, o.data = Data.dict es n) → H b = none := fun b o z ⟨es, n, d⟩ => by
      by_cases hb : b = a
      · rw [hb, at_a] at z
        cases z
        cases d
      · exact h2 b hb
    have nsKept : ∀ (b : Addr) (m : Str → Option Value), t.heap.Ns b m → (hidT t.heap H).Ns b m := fun b m z => by
      obtain ⟨o, es, ep, z1, z2, z3⟩ := z
      exact ⟨o, es, ep, hidT_get z1 (dictFree b o z1 ⟨_, _, z2⟩), z2, z3⟩
    have inKept : K.In (hidT t.heap H) := fun b o z => hidT_get (hin b o z) (by
      by_cases hb : b = a
      · rcases h3 with z3 | z3
        · rw [hb]; exact z3
        · rw [hb, z3] at z; cases z
      · exact h2 b hb)
    obtain ⟨mc, l1, l2⟩ := hno
    refine ⟨H, hidT t.heap H, h1, h5, inKept, nsKept _ _ hgl, ⟨rfl, ⟨inKept, nsKept _ _ hgl, ⟨mb, nsKept _ _ hbl, hbo⟩, ⟨mc, nsKept _ _ l1, l2⟩⟩, fun b o z => of_hidT z, ?_, trivial, fun b z => (nomatch z), h4, .of_eq hgs⟩⟩
    rw [hidT_size]
    exact Nat.le_refl _
  cases hk : K.lookup a with
  | some o =>
    have z := hin a o hk
    rw [at_a] at z
    cases z
    exact rest (fun _ => none) (fun _ => .inl rfl) (fun _ _ => rfl) (.inl rfl) (fun _ _ z => nomatch z) (.inr ⟨_, us.toArray, _, hk, rfl, rfl, rfl, by rw [List.size_toArray, ul]; exact few, by simpa using rv⟩)
  | none =>
    refine rest (upd (fun _ => none) a (.frz { cls := .type "list", data := .seq us.toArray } (.lst (ns.map V.int)))) (fun b => ?_) (fun b hb => upd_ne hb) (.inr hk) (fun b u z => ?_) (.inl (.inr ⟨_, upd_same⟩))
    · by_cases hb : b = a
      · rw [hb]; exact .inr ⟨_, _, upd_same⟩
      · exact .inl (upd_ne hb)
    · by_cases hb : b = a
      · subst hb
        rw [upd_same] at z
        cases z
        exact ⟨at_a, by rw [List.length_map]; exact few, us, _, rv, at_a⟩
      · rw [upd_ne hb] at z
        cases z
theorem end_g {l : PySem.W.OpenLaw} {n k : Nat} {q : Program} {loose : List Str} {XP : (Str → Option Value) → Heap → Prop} {YP : World → Heap → Prop} {d : DefRec} {x : Str} (hn : l.most = some n) (hn2 : n ≤ sizeLine) (hdf : d.params.defaults = []) (hr : Room k callerA)
    (F : ∀ (w : World) (mg : Str → Option Value) (fa : Addr) (h : Heap), YP w h → h.Ns mainGlobals mg → mg d.name = some (.ref fa) →
      ∃ (K : PySem.W.Frag) (fd : FuncData) (sp : Sp), K.In h ∧ (∀ (s : Shared) (u : Value), BindsTo s fd ⟨[u], []⟩ [(x, u)]) ∧
        (∀ (H : Hp) (a : Addr) (ns : List Int), ns.length ≤ n → SqL K H a (ns.map V.int) → sp [.ref a] H (fun v _ => v = .bl true) fun _ _ _ => False) ∧
        ∀ base : Heap, K.In base → base.Ns mainGlobals mg → FnG l.prog w K mg base CX0 k fa fd [x] sp) :
    PySem.W.WalkO q loose XP YP l.row.toRowW d [] (fun f vs => PySem.call f vs) := by
  refine Att.attach_call hn hdf fun w s₀ t mg mb fa o pm cd doc a us ns G Y ho hd hcd hmg at_a hi hl hg => ?_
  obtain ⟨K, fd, sp, hin, hb, hsp, hF⟩ := F w mg fa _ Y G.T.g hmg
  obtain ⟨H, base, only, hS, hKb, hgb, e0⟩ := script_env (P := l.prog) (w := w) hin G.T.g G.T.b G.T.builtins G.T.nolimit hg at_a hi (Nat.le_trans hl hn2)
  refine codeAny_mono ((hF base hKb hgb).does callerA rfl hr [] t H e0 ⟨[.ref a], []⟩ [.ref a] [.ref a] (hb t (.ref a)) (.cons rfl .nil) _ _ (hsp H a ns hl hS)) fun r t2 h => ?_
  match r, h with
  | .error e, h => exact (show False from h).elim
  | .ok (.ret u), h =>
    obtain ⟨v, H2, os, bare, un, hok2, rv, qv⟩ := h
    have qv : v = .bl true := qv
    subst qv
    have rv : u = Value.bool true := rv
    subst rv
    refine ⟨rfl, OldK.of_keep fun b o z => ?_, os, bare⟩
    rcases only b with hb | ⟨ob, ys, hb⟩
    · exact un.keep b o z hb (fun y => nomatch y) (fun y => nomatch y)
    · have z1 : t.heap.get? b = some ob := (e0.hok b _ hb).1
      have z2 : t2.heap.get? b = some ob := (hok2 b _ (un.frzs b ob _ hb)).1
      rw [z] at z1
      cases z1
      exact z2
end My

namespace My
open PySem PySem.Spec PyProof.Rows L2 Pre
/-! ### repr of an empty dict, too -/
def rReprX (K : PySem.W.Frag) : List V → Hp → VK → Prop := fun xs H Q => rRepr K xs H Q ∨ ∃ a : Addr, xs = [.ref a] ∧ H a = some (.dK []) ∧ Q (.str (PyData.dict []).shown) H
theorem call_reprX {X : Cx} (gd : X.A.guards = some []) (hu : X.A.units + 65 < cLine) : CallR X (.builtin "repr") (rReprX X.K) := by
  intro pins s σ H xs us Q I r h
  rcases h with h | ⟨a, rfl, ha, q⟩
  · exact call_repr gd hu pins s σ H xs us Q I r h
  · cases r with
    | cons rx rr =>
      cases rr
      cases rx
      have hx := I.hok a _ ha
      obtain ⟨t1, t2, vs, rel, o, es, ep, ho, h2, h3, h4⟩ := hx
      obtain rfl : vs = [] := by cases rel; rfl
      have he : es.toList = [] := by
        have h5 := h4.2.1
        cases hl : es.toList with
        | nil => rfl
        | cons e r => rw [hl] at h5; cases h5
      have rd : Reads s.heap (.ref a) (.dict []) [a] := .dict (as := []) (bs := []) ho h2.1 h3 (by rw [he]; exact .nil) (by rw [he]; exact .nil)
      have hd : (PyData.dict []).depth ≤ 64 := by decide +kernel
      have fin : ∀ h' v tk, (∀ b o, s.heap.get? b = some o → h'.get? b = some o) → EP X pins σ Q (.str (PyData.dict []).shown v) { s with heap := h', toks := tk } := fun h' v tk hk => ⟨.str (PyData.dict []).shown, H, I.kept hk, ⟨v, rfl⟩, q⟩
      exact repr_of_reads' rd rfl (fun _ m => by
        rw [List.mem_singleton] at m
        rw [← m] at t2
        simp at t2) gd (by omega) (fun _ _ z => z) fin (by decide +kernel)
theorem k_reprX {X : Cx} (K : PySem.W.Frag) (h : X.K = K) (gd : X.A.guards = some []) (hu : X.A.units + 65 < cLine) : CallR X (.builtin "repr") (rReprX K) := by subst h; exact call_reprX gd hu
end My

namespace My
open PySem PySem.Spec PyProof.Rows PySem.W L2 Pre
/-- products of one small number, or of two that are not too great -/
def CMulA (i j : Int) : Prop := CMul i j ∨ CMulX i j
theorem op_mulA {X : Cx} : OpR X (binaryOp .Mult) (rI CMulA fun i j => .int (i * j)) := fun pins s σ H x y v u Q I r1 r2 h => by
  obtain ⟨i, j, ex, ey, hc, q⟩ := h
  rcases hc with hc | hc
  · exact op_mul pins s σ H x y v u Q I r1 r2 ⟨i, j, ex, ey, hc, q⟩
  · exact op_mulX pins s σ H x y v u Q I r1 r2 ⟨i, j, ex, ey, hc, q⟩
end My

namespace My
open PySem PySem.Spec PyProof.Rows L2 Pre
/-! ### numbers drawn from one or two great ones -/
def PumpAt (H : Hp) (g : Addr) : Prop := ∃ ns : List Int, H g = some (.lst (ns.map V.int)) ∧ (ns.length = 1 ∨ ns.length = 2)
theorem PumpAt.same {H H' : Hp} {g : Addr} (h : PumpAt H g) (s : Same H H') : PumpAt H' g := by
  obtain ⟨ns, a, b⟩ := h
  exact ⟨ns, s _ _ a, b⟩
theorem PumpAt.ne {H : Hp} {g p : Addr} (h : PumpAt H g) (np : H p = none) : p ≠ g := by
  obtain ⟨ns, a, _⟩ := h
  exact (ne_of_none a np).symm
theorem at0 {α : Type} (x : α) (r : List α) : atI (x :: r) 0 = some x := atI_nat (xs := x :: r) (j := 0) rfl
theorem ix0 (n : Nat) : ixN (n + 1) 0 = some 0 := by unfold ixN; rw [if_pos (by decide), if_pos (by omega)]; rfl
theorem div9 {m : Int} (h0 : 0 < m) (h1 : m ≤ 10 ^ 18) : m.natAbs.log2 < 9000 := by
  have : m.natAbs < 2 ^ 60 := by omega
  exact Nat.lt_of_lt_of_le (PySem.Flt.log2_lt_of (by decide) this) (by decide)
theorem cmulx_dec {i j : Int} (h : (Builtin.Int.intBits i : Int) + (Builtin.Int.intBits j : Int) ≤ 134217728) : CMulA i j := .inr h
local macro_rules | `(tactic| walk_at "go") => `(tactic| repeat (first | (with_reducible first | refine iteT ?_ | refine iteF ?_ | refine iteNtt ?_ | refine iteNff ?_ | refine iteET (by omega) ?_ | refine iteEF (by omega) ?_ | refine iteENT (by omega) ?_ | refine iteENF (by omega) ?_ | refine iteDT (by omega) ?_ | refine iteDF (by omega) ?_ | refine iteNT (by omega) ?_ | refine iteNF (by omega) ?_) | refine ⟨_, rfl, ?_⟩ | refine ⟨_, _, rfl, rfl, ?_⟩ | refine ⟨_, _, rfl, ?_⟩ | refine ⟨rfl, ?_⟩ | refine .inl ⟨_, rfl, ?_⟩ | refine .inr ⟨_, rfl, ?_⟩))
local macro_rules | `(tactic| walk_at "b") => `(tactic| try dsimp (config := { proj := false, iota := false, eta := false, zeta := false }) only)
section
variable {P : Program} {w : World} {K : PySem.W.Frag} {mg : Str → Option Value} {base : Heap} [pf : Sup.PF P fileS]
def sp_law_cup : Sp := fun vs H Q _ => ∃ (g : Addr) (m : Int), vs = [.ref g, .int m] ∧ PumpAt H g ∧ 0 < m ∧ m ≤ 10 ^ 18 ∧ ∀ (H' : Hp) (d : Nat), But g H H' → PumpAt H' g → (d : Int) < m → Q (.int d) H'
theorem G_law_cup (T : Top K mg) : FnOk P w K mg base CX0 1 T.f_law_cup T.fd_law_cup ["_law_pump_here", "_law_many"] sp_law_cup := by
  refine T.F_law_cup.ok sc_law_cup (fun vs H Q E h => by obtain ⟨g, m, rfl, _⟩ := h; rfl) (fun cdv A outer s H vs Q E hr h => ?_)
  obtain ⟨g, m, rfl, ⟨ns, hg, hn⟩, h0, h1, q⟩ := h
  refine ⟨_, PSs.nox (pss_cons (ps_if (PW.pt (pw_and (pt_cmpR op_eq (pe_ix (k_ixL K rfl) (pv 0) pe_int (fun _ _ => rfl)) pe_int (nomark _)) (pw_and1 (pt_cmpR op_gt (pe_callB (k_len K rfl) (by rfl) T.n_len (by decide +kernel) (pa_cons (pv 0) pa_nil)) pe_int (nomark _)))))
    (pss_one (ps_asg (pe_bm0 PySem.F.plainAttrs_list PySem.F.slot_list_pop PySem.F.type_list_pop mt_pop (pv 0)) (pg_sub (pv 0) pe_int set_list)))
    pss_nil)
  (pss_cons (ps_set (i := 2) sc_law_cup.nd rfl (by first | exact Or.inl rfl | exact Or.inr rfl) (pe_op op_mod (pe_callTy call_int1 (by rfl) T.n_int (by decide +kernel) (pa_cons (pe_ix (k_ixL K rfl) (pv 0) pe_int (fun _ _ => rfl)) pa_nil)) (pv 1)))
  (pss_cons (ps_asg (pe_op op_fdivW (pe_ix (k_ixL K rfl) (pv 0) pe_int (fun _ _ => rfl)) (pv 1)) (pg_sub (pv 0) pe_int set_list))
  (pss_one (ps_ret (pv 2)))))), ?_⟩
  obtain ⟨x, r, rfl⟩ : ∃ (x : Int) (r : List Int), ns = x :: r := by
    cases ns with
    | nil => rcases hn with h | h <;> cases h
    | cons x r => exact ⟨x, r, rfl⟩
  have key : ∀ {H1 : Hp} {x : Int} {r : List Int}, But g H H1 → H1 g = some (.lst ((x :: r).map V.int)) → ((x :: r).length = 1 ∨ (x :: r).length = 2) → ∀ d : Nat, (d : Int) = x % m → Q (.int d) (upd H1 g (.lst (((x :: r).map V.int).set 0 (V.int (x / m))))) := by
    intro H1 x r b hg1 hn1 d hd
    refine q _ d b.upd ⟨(x / m) :: r, ?_, hn1⟩ ?_
    · rw [upd_same]
      rfl
    · rw [hd]
      exact Int.emod_lt_of_pos x h0
  refine ⟨_, rfl, g, _, _, .int x, rfl, rfl, .inl (.inl hg), at0 _ _, rfl, _, rfl, ?_⟩
  by_cases hx : x = 0
  · subst hx
    refine iteT ?_
    refine ⟨_, rfl, g, _, rfl, .inl (.inl (.inl hg)), _, _, rfl, rfl, _, rfl, ?_⟩
    cases r with
    | nil =>
      refine iteF ?_
      refine ⟨_, rfl, g, _, _, .int 0, rfl, rfl, .inl (.inl hg), at0 _ _, .inl ⟨_, rfl, ?_⟩⟩
      refine ⟨_, rfl, _, _, rfl, rfl, h0, ?_⟩
      refine ⟨_, rfl, g, _, _, .int 0, rfl, rfl, .inl (.inl hg), at0 _ _, _, rfl, _, _, rfl, rfl, ⟨h0, div9 h0 h1⟩, ?_⟩
      refine ⟨_, rfl, g, _, _, 0, rfl, rfl, hg, ix0 _, ?_⟩
      obtain ⟨d, hd⟩ := Int.eq_ofNat_of_zero_le (Int.emod_nonneg 0 (show m ≠ 0 by omega))
      refine ⟨_, rfl, ?_⟩
      dsimp only
      rw [hd]
      exact key (x := 0) (r := []) But.refl hg (.inl rfl) d hd.symm
    | cons y r =>
      obtain rfl : r = [] := by
        rcases hn with h | h
        · simp at h
        · simpa using h
      refine iteT ?_
      refine ⟨_, rfl, .inl ⟨rfl, _, .inl (.inl hg)⟩, g, _, .int y, rfl, rfl, hg, rfl, ?_⟩
      refine ⟨_, rfl, g, _, _, 0, rfl, rfl, upd_same, ix0 _, ?_⟩
      have hg2 : upd (upd H g (.lst (([(0 : Int), y].map V.int).dropLast))) g (.lst ((([(0 : Int), y].map V.int).dropLast).set 0 (.int y))) g = some (.lst ([y].map V.int)) := upd_same
      refine ⟨_, rfl, g, _, _, .int y, rfl, rfl, .inl (.inl hg2), at0 _ _, .inl ⟨_, rfl, ?_⟩⟩
      refine ⟨_, rfl, _, _, rfl, rfl, h0, ?_⟩
      refine ⟨_, rfl, g, _, _, .int y, rfl, rfl, .inl (.inl hg2), at0 _ _, _, rfl, _, _, rfl, rfl, ⟨h0, div9 h0 h1⟩, ?_⟩
      refine ⟨_, rfl, g, _, _, 0, rfl, rfl, hg2, ix0 _, ?_⟩
      obtain ⟨d, hd⟩ := Int.eq_ofNat_of_zero_le (Int.emod_nonneg y (show m ≠ 0 by omega))
      refine ⟨_, rfl, ?_⟩
      dsimp only
      rw [hd]
      exact key (x := y) (r := []) (But.refl.upd.upd) hg2 (.inl rfl) d hd.symm
  · refine iteDF (fun h => hx (V.int.inj h)) ?_
    refine ⟨_, rfl, g, _, _, .int x, rfl, rfl, .inl (.inl hg), at0 _ _, .inl ⟨_, rfl, ?_⟩⟩
    refine ⟨_, rfl, _, _, rfl, rfl, h0, ?_⟩
    refine ⟨_, rfl, g, _, _, .int x, rfl, rfl, .inl (.inl hg), at0 _ _, _, rfl, _, _, rfl, rfl, ⟨h0, div9 h0 h1⟩, ?_⟩
    refine ⟨_, rfl, g, _, _, 0, rfl, rfl, hg, ix0 _, ?_⟩
    obtain ⟨d, hd⟩ := Int.eq_ofNat_of_zero_le (Int.emod_nonneg x (show m ≠ 0 by omega))
    refine ⟨_, rfl, ?_⟩
    dsimp only
    rw [hd]
    exact key (x := x) (r := r) But.refl hg hn d hd.symm
def sp_law_pump (K : PySem.W.Frag) : Sp := fun vs H Q _ => ∃ (a : Addr) (ns : List Int), vs = [.ref a, .int 0] ∧ SqL K H a (ns.map V.int) ∧ ns.length ≤ 63 ∧ ∀ H' g, Same H H' → H g = none → PumpAt H' g → Q (.ref g) H'
theorem G_law_pump (T : Top K mg) : FnOk P w K mg base CX0 1 T.f_law_pump T.fd_law_pump ["_law_script", "_law_at"] (sp_law_pump K) := by
  refine T.F_law_pump.ok sc_law_pump (fun vs H Q E h => by obtain ⟨a, ns, rfl, _⟩ := h; rfl) (fun cdv A outer s H vs Q E hr h => ?_)
  obtain ⟨a, ns, rfl, hS, hz, q⟩ := h
  refine ⟨_, PSs.nox (pss_cons (ps_set (i := 2) sc_law_pump.nd rfl (by first | exact Or.inl rfl | exact Or.inr rfl) (pe_op op_add (pe_op op_add (pe_op op_mulA pe_int (pv 1)) pe_int) (pe_op op_mod (pe_callB (k_sum K rfl rfl) (by rfl) T.n_sum (by decide +kernel) (pa_cons (pe_slice (k_slL K rfl) (pv 0) po_none (po_some pe_int)) pa_nil)) pe_int)))
  (pss_cons (ps_if (pt_cmpR op_lt (pv 1) (pe_callB (k_len K rfl) (by rfl) T.n_len (by decide +kernel) (pa_cons (pv 0) pa_nil)) (nomark _))
    (pss_one (ps_set (i := 2) sc_law_pump.nd rfl (by first | exact Or.inl rfl | exact Or.inr rfl) (pe_ix (k_ixL K rfl) (pv 0) (pv 1) (fun _ _ => rfl))))
    pss_nil)
  (pss_cons (ps_par (by rfl) sc_law_pump.nd (i := 6) (j := 7) rfl rfl (by decide) rfl rfl (pa_cons (pe_op op_mod (pe_callTy call_int1 (by rfl) T.n_int (by decide +kernel) (pa_cons (pe_op op_add (pv 2) (pe_op op_mulA pe_int (pv 1))) pa_nil)) pe_int) (pa_cons (pe_op op_mod (pe_callTy call_int1 (by rfl) T.n_int (by decide +kernel) (pa_cons (pv 2) pa_nil)) pe_int) pa_nil)) (by rfl))
  (pss_cons (ps_set (i := 3) sc_law_pump.nd rfl (by first | exact Or.inl rfl | exact Or.inr rfl) pe_int)
  (pss_cons (ps_for PassesOwn.never rfl (pi_range1 (by rfl) T.n_range (pa_cons pe_int pa_nil)) (pg_name (i := 4) sc_law_pump.nd rfl (by first | exact Or.inl rfl | exact Or.inr rfl))
    (pss_cons (ps_set (i := 6) sc_law_pump.nd rfl (by first | exact Or.inl rfl | exact Or.inr rfl) (pe_op op_mod (pe_callTy call_int1 (by rfl) T.n_int (by decide +kernel) (pa_cons (pe_op op_add (pe_op op_add (pe_op op_add (pe_op op_mulA (pv 6) pe_int) (pe_op op_mulA (pv 4) pe_int)) (pe_op op_mulA pe_int (pv 1))) pe_int) pa_nil)) pe_int))
  (pss_cons (ps_set (i := 7) sc_law_pump.nd rfl (by first | exact Or.inl rfl | exact Or.inr rfl) (pe_op op_mod (pe_callTy call_int1 (by rfl) T.n_int (by decide +kernel) (pa_cons (pe_op op_add (pe_op op_add (pe_op op_mulA (pv 7) (pv 7)) (pe_op op_mulA pe_int (pv 4))) pe_int) pa_nil)) pe_int))
  (pss_one (ps_set (i := 3) sc_law_pump.nd rfl (by first | exact Or.inl rfl | exact Or.inr rfl) (pe_op op_add (pe_op op_mulA (pv 3) pe_int) (pe_op op_mod (pe_callTy call_int1 (by rfl) T.n_int (by decide +kernel) (pa_cons (pe_op op_add (pe_op op_mulA (pv 6) (pv 7)) (pe_op op_mulA pe_int (pv 4))) pa_nil)) pe_int)))))))
  (pss_cons (ps_if (pt_cmpR op_lt (pv 2) (pe_op op_powW pe_int pe_int) (nomark _))
    (pss_one (ps_ret (pe_lst (pa_cons (pv 3) pa_nil))))
    pss_nil)
  (pss_cons (ps_set (i := 5) sc_law_pump.nd rfl (by first | exact Or.inl rfl | exact Or.inr rfl) (pe_op op_mulA (pe_op op_mulA (pe_op op_mulA (pe_op op_powW pe_int pe_int) (pe_op op_powW pe_int pe_int)) (pe_op op_powW pe_int pe_int)) (pe_op op_powW pe_int pe_int)))
  (pss_one (ps_ret (pe_lst (pa_cons (pe_op op_mod (pe_callTy call_int1 (by rfl) T.n_int (by decide +kernel) (pa_cons (pe_op op_sub (pv 2) (pe_op op_powW pe_int pe_int)) pa_nil)) (pe_op op_mulA (pe_op op_mulA (pv 5) (pv 5)) (pv 5))) (pa_cons (pv 3) pa_nil)))))))))))), ?_⟩
  have ec : ∃ ms : List Int, cutV (ns.map V.int) none (some 1) = ms.map V.int := ⟨ns.take 1, by rw [show (1 : Int) = ((1 : Nat) : Int) from rfl, cut_take, List.map_take]⟩
  obtain ⟨ms, em⟩ := ec
  have c1 : ∀ {i : Int} {k : Int}, -(2 ^ 64) < k → k < 2 ^ 64 → CMulA i k := fun h1 h2 => .inl (.inr ⟨h1, h2⟩)
  have c2 : ∀ {i : Int} {k : Int}, -(2 ^ 64) < k → k < 2 ^ 64 → CMulA k i := fun h1 h2 => .inl (.inl ⟨h1, h2⟩)
  refine ⟨_, rfl, _, _, rfl, rfl, c2 (by decide) (by decide), _, _, rfl, rfl, _, rfl, _, rfl, a, _, rfl, hS, fun p np => ?_⟩
  obtain ⟨H1, e1, s1, hp1⟩ := fresh (.lst (cutV (ns.map V.int) none (some 1))) np
  rw [e1]
  refine ⟨p, ms, rfl, .inl (.inl (by rw [hp1, em])), _, _, rfl, rfl, (by show (0 : Int) < 1000003; decide), _, _, rfl, rfl, ?_⟩
  have c3 : ∀ i k : Int, CMulA i (k % 2147483033) := fun i k => .inl (.inr ⟨by have := Int.emod_nonneg k (show (2147483033 : Int) ≠ 0 by decide); omega, by have := Int.emod_lt_of_pos k (show (0 : Int) < 2147483033 by decide); omega⟩)
  generalize ((23 : Int) * 0 + 11 + ms.sum % 1000003) = c0
  refine ⟨_, rfl, _, rfl, a, _, rfl, .inl (s1.seq hS), _, _, rfl, rfl, _, rfl, ?_⟩
  by_cases h : 0 < ns.length
  rotate_left
  · refine iteDF (by rw [List.length_map]; omega) ?_
    refine ⟨_, rfl, _, rfl, _, _, rfl, rfl, c2 (by decide) (by decide), _, _, rfl, rfl, .inl ⟨_, rfl, _, _, rfl, rfl, (by show (0 : Int) < 2147483053; decide), _, rfl, .inl ⟨_, rfl, _, _, rfl, rfl, (by show (0 : Int) < 2147483033; decide), ?_⟩⟩⟩
    refine ⟨_, _, rfl, _, rfl, (by decide), (by decide), ?_⟩
    refine for_range (lo := 0) (n := ((120 : Int)).toNat) (fun i σ H2 => ∃ (f n t : Int) (v : Option V), σ = [some (.ref a), some (.int 0), some (.int (23 * 0 + 11 + ms.sum % 1000003)), some (.int f), v, none, some (.int n), some (.int t)] ∧ 0 ≤ t ∧ t < 2147483033 ∧ H2 = H1) ⟨_, _, _, none, rfl, Int.emod_nonneg _ (by decide), Int.emod_lt_of_pos _ (by decide), rfl⟩ ?_ ?_
    · rintro i σ H2 hi ⟨f, n, t, v, rfl, t0, t1, rfl⟩
      refine ⟨_, rfl, _, _, rfl, rfl, c1 (by decide) (by decide), _, rfl, _, _, rfl, rfl, c1 (by decide) (by decide), _, _, rfl, rfl, _, rfl, _, _, rfl, rfl, c2 (by decide) (by decide), _, _, rfl, rfl, _, _, rfl, rfl, .inl ⟨_, rfl, _, _, rfl, rfl, (by show (0 : Int) < 2147483053; decide), ?_⟩⟩
      refine ⟨_, rfl, _, rfl, _, _, rfl, rfl, .inl (.inl ⟨by omega, by omega⟩), _, rfl, _, _, rfl, rfl, c2 (by decide) (by decide), _, _, rfl, rfl, _, _, rfl, rfl, .inl ⟨_, rfl, _, _, rfl, rfl, (by show (0 : Int) < 2147483033; decide), ?_⟩⟩
      refine ⟨_, rfl, _, _, rfl, rfl, c1 (by decide) (by decide), _, rfl, _, rfl, _, _, rfl, rfl, c3 _ _, _, rfl, _, _, rfl, rfl, c2 (by decide) (by decide), _, _, rfl, rfl, .inl ⟨_, rfl, _, _, rfl, rfl, (by show (0 : Int) < 2147483032; decide), _, _, rfl, rfl, ?_⟩⟩
      exact ⟨_, _, _, _, rfl, Int.emod_nonneg _ (by decide), Int.emod_lt_of_pos _ (by decide), rfl⟩
    · rintro σ H2 ⟨f, n, t, v, rfl, t0, t1, rfl⟩
      refine ⟨_, rfl, _, _, rfl, rfl, ⟨by decide, by decide +kernel⟩, _, _, rfl, rfl, _, rfl, ite2 (fun e => ?_) (fun e => ?_)⟩
      · refine ⟨_, rfl, (by show 1 ≤ sizeLine; decide), fun g ng => ?_⟩
        exact q _ _ (s1.trans (same_upd ng)) (s1.free ng) ⟨[f], upd_same, .inl rfl⟩
      · refine ⟨_, _, rfl, rfl, ⟨by decide, by decide +kernel⟩, _, _, rfl, rfl, ⟨by decide, by decide +kernel⟩, _, _, rfl, rfl, cmulx_dec (by decide +kernel), _, _, rfl, rfl, ⟨by decide, by decide +kernel⟩, _, _, rfl, rfl, cmulx_dec (by decide +kernel), _, _, rfl, rfl, ⟨by decide, by decide +kernel⟩, _, _, rfl, rfl, cmulx_dec (by decide +kernel), ?_⟩
        refine ⟨_, rfl, _, _, rfl, rfl, ⟨by decide, by decide +kernel⟩, _, _, rfl, rfl, .inl ⟨_, rfl, _, rfl, _, rfl, _, _, rfl, rfl, cmulx_dec (by decide +kernel), _, rfl, _, _, rfl, rfl, cmulx_dec (by decide +kernel), _, _, rfl, rfl, (by dsimp only; decide +kernel), _, rfl, (by show 2 ≤ sizeLine; decide), fun g ng => ?_⟩⟩
        exact q _ _ (s1.trans (same_upd ng)) (s1.free ng) ⟨[_, f], upd_same, .inr rfl⟩
  · obtain ⟨x, r, rfl⟩ : ∃ x r, ns = x :: r := by
      cases ns with
      | nil => cases h
      | cons x r => exact ⟨x, r, rfl⟩
    refine iteDT (by rw [List.length_map, List.length_cons]; omega) ?_
    refine ⟨_, rfl, _, rfl, a, _, _, .int x, rfl, rfl, s1.seq hS, at0 _ _, ?_⟩
    refine ⟨_, rfl, _, rfl, _, _, rfl, rfl, c2 (by decide) (by decide), _, _, rfl, rfl, .inl ⟨_, rfl, _, _, rfl, rfl, (by show (0 : Int) < 2147483053; decide), _, rfl, .inl ⟨_, rfl, _, _, rfl, rfl, (by show (0 : Int) < 2147483033; decide), ?_⟩⟩⟩
    refine ⟨_, _, rfl, _, rfl, (by decide), (by decide), ?_⟩
    refine for_range (lo := 0) (n := ((120 : Int)).toNat) (fun i σ H2 => ∃ (f n t : Int) (v : Option V), σ = [some (.ref a), some (.int 0), some (.int x), some (.int f), v, none, some (.int n), some (.int t)] ∧ 0 ≤ t ∧ t < 2147483033 ∧ H2 = H1) ⟨_, _, _, none, rfl, Int.emod_nonneg _ (by decide), Int.emod_lt_of_pos _ (by decide), rfl⟩ ?_ ?_
    · rintro i σ H2 hi ⟨f, n, t, v, rfl, t0, t1, rfl⟩
      refine ⟨_, rfl, _, _, rfl, rfl, c1 (by decide) (by decide), _, rfl, _, _, rfl, rfl, c1 (by decide) (by decide), _, _, rfl, rfl, _, rfl, _, _, rfl, rfl, c2 (by decide) (by decide), _, _, rfl, rfl, _, _, rfl, rfl, .inl ⟨_, rfl, _, _, rfl, rfl, (by show (0 : Int) < 2147483053; decide), ?_⟩⟩
      refine ⟨_, rfl, _, rfl, _, _, rfl, rfl, .inl (.inl ⟨by omega, by omega⟩), _, rfl, _, _, rfl, rfl, c2 (by decide) (by decide), _, _, rfl, rfl, _, _, rfl, rfl, .inl ⟨_, rfl, _, _, rfl, rfl, (by show (0 : Int) < 2147483033; decide), ?_⟩⟩
      refine ⟨_, rfl, _, _, rfl, rfl, c1 (by decide) (by decide), _, rfl, _, rfl, _, _, rfl, rfl, c3 _ _, _, rfl, _, _, rfl, rfl, c2 (by decide) (by decide), _, _, rfl, rfl, .inl ⟨_, rfl, _, _, rfl, rfl, (by show (0 : Int) < 2147483032; decide), _, _, rfl, rfl, ?_⟩⟩
      exact ⟨_, _, _, _, rfl, Int.emod_nonneg _ (by decide), Int.emod_lt_of_pos _ (by decide), rfl⟩
    · rintro σ H2 ⟨f, n, t, v, rfl, t0, t1, rfl⟩
      refine ⟨_, rfl, _, _, rfl, rfl, ⟨by decide, by decide +kernel⟩, _, _, rfl, rfl, _, rfl, ite2 (fun e => ?_) (fun e => ?_)⟩
      · refine ⟨_, rfl, (by show 1 ≤ sizeLine; decide), fun g ng => ?_⟩
        exact q _ _ (s1.trans (same_upd ng)) (s1.free ng) ⟨[f], upd_same, .inl rfl⟩
      · refine ⟨_, _, rfl, rfl, ⟨by decide, by decide +kernel⟩, _, _, rfl, rfl, ⟨by decide, by decide +kernel⟩, _, _, rfl, rfl, cmulx_dec (by decide +kernel), _, _, rfl, rfl, ⟨by decide, by decide +kernel⟩, _, _, rfl, rfl, cmulx_dec (by decide +kernel), _, _, rfl, rfl, ⟨by decide, by decide +kernel⟩, _, _, rfl, rfl, cmulx_dec (by decide +kernel), ?_⟩
        refine ⟨_, rfl, _, _, rfl, rfl, ⟨by decide, by decide +kernel⟩, _, _, rfl, rfl, .inl ⟨_, rfl, _, rfl, _, rfl, _, _, rfl, rfl, cmulx_dec (by decide +kernel), _, rfl, _, _, rfl, rfl, cmulx_dec (by decide +kernel), _, _, rfl, rfl, (by dsimp only; decide +kernel), _, rfl, (by show 2 ≤ sizeLine; decide), fun g ng => ?_⟩⟩
        exact q _ _ (s1.trans (same_upd ng)) (s1.free ng) ⟨[_, f], upd_same, .inr rfl⟩
end
end My

namespace My
open PySem PySem.Spec PyProof.Rows L2 Pre
/-! ### what the law of stuffed rows draws -/
theorem sign_at {d : Nat} (h : (d : Int) < 2) : atI (bS [false, true]).cps.toList (d : Int) = some (sgn (d == 1)) := by
  have : d = 0 ∨ d = 1 := by omega
  rcases this with rfl | rfl
  · exact bS_atI (bs := [false, true]) rfl
  · exact bS_atI (bs := [false, true]) rfl
theorem strok_bS (bs : List Bool) : PyData.strOk (bS bs) = true := by
  unfold PyData.strOk bS
  rw [← Array.all_toList, List.all_eq_true]
  intro c hc
  obtain ⟨b, _, rfl⟩ := List.mem_map.mp (show c ∈ bs.map sgn by simpa using hc)
  cases b <;> decide
theorem other_at (z : Bool) : atI (bS [true, false]).cps.toList ((z.toNat : Nat) : Int) = some (sgn (!z)) := by
  cases z
  · exact bS_atI (bs := [true, false]) rfl
  · exact bS_atI (bs := [true, false]) rfl
/-- a thing that was not there at first changes -/
theorem But.over {g s : Addr} {H H' : Hp} {o : HO} (b : But g H H') (ns : H s = none) : But g H (L2.upd H' s o) := fun c u nc hc => by
  rw [upd_ne (ne_of_none hc ns)]
  exact b c u nc hc
theorem PumpAt.upd {g s : Addr} {H : Hp} {o : HO} (h : PumpAt H g) (ne : s ≠ g) : PumpAt (L2.upd H s o) g := by
  obtain ⟨ns, a, b⟩ := h
  exact ⟨ns, by rw [upd_ne ne.symm]; exact a, b⟩
theorem flat_len (x : List Bool) (k : Nat) : (List.replicate k x).flatten.length = k * x.length := by
  induction k with
  | zero => simp
  | succ k ih => rw [List.replicate_succ, List.flatten_cons, List.length_append, ih, Nat.succ_mul]; omega
theorem strs_dp {K : PySem.W.Frag} {H : Hp} : ∀ l : List Str, DpAll K H (l.map V.str) (l.map PyData.str)
  | [] => .nil
  | x :: r => .cons (.str x) (strs_dp r)
theorem sg_eq (t : List Bool) : sg t = (t.map fun b => bS [b]).map V.str := by unfold sg; rw [List.map_map]; rfl
theorem sg_take (t : List Bool) (k : Nat) : (sg t).take k = sg (t.take k) := by unfold sg; rw [List.map_take]
theorem join_sg' {K : PySem.W.Frag} {H : Hp} {a : Addr} {t : List Bool} (h : H a = some (.lst (sg t))) (hz : t.length ≤ 100000) :
    ∃ ys : List Str, (SqL K H a (ys.map V.str) ∨ SqT K H a (ys.map V.str)) ∧ (ys.map fun x => x.length).sum + ys.length * ((("" : String) : Str)).length ≤ 16777216 ∧ Txt.join (("" : String) : Str) ys = bS t := by
  obtain ⟨x, p, ys, e1, e2, h1, h2, h3⟩ := join_sg (K := K) (Q := fun u _ => u = .str (bS t)) h hz rfl
  cases e1
  cases e2
  exact ⟨ys, h1, h2, V.str.inj h3⟩
theorem eq_sg {K : PySem.W.Frag} {H : Hp} {s p : Addr} {t : List Bool} {Q : V → Hp → Prop} (h : H s = some (.lst (sg t))) (hp : H p = some (.lst [])) (q : Q (.bl (decide (t = []))) H) : rEqD K (.ref s) (.ref p) H Q := by
  refine ⟨.list ((t.map fun b => bS [b]).map PyData.str), .list [], .lst (.inl (.inl (by rw [h, sg_eq]))) (strs_dp _), .lst (.inl (.inl hp)) .nil, strs_shaped fun x hx => by obtain ⟨b, _, rfl⟩ := List.mem_map.mp hx; exact strok_bS _, rfl, ?_⟩
  have e : PyData.eqv (.list ((t.map fun b => bS [b]).map PyData.str)) (.list []) = decide (t = []) := by
    cases t with
    | nil => rfl
    | cons b r => rfl
  rw [e]
  exact q
local macro_rules | `(tactic| walk_at "go") => `(tactic| repeat (first | (with_reducible first | refine iteT ?_ | refine iteF ?_ | refine iteNtt ?_ | refine iteNff ?_ | refine iteET (by omega) ?_ | refine iteEF (by omega) ?_ | refine iteENT (by omega) ?_ | refine iteENF (by omega) ?_ | refine iteDT (by omega) ?_ | refine iteDF (by omega) ?_ | refine iteNT (by omega) ?_ | refine iteNF (by omega) ?_) | refine ⟨_, rfl, ?_⟩ | refine ⟨_, _, rfl, rfl, ?_⟩ | refine ⟨_, _, rfl, ?_⟩ | refine ⟨rfl, ?_⟩ | refine .inl ⟨_, rfl, ?_⟩ | refine .inr ⟨_, rfl, ?_⟩))
local macro_rules | `(tactic| walk_at "b") => `(tactic| try dsimp (config := { proj := false, iota := false, eta := false, zeta := false }) only)
section
variable {P : Program} {w : World} {K : PySem.W.Frag} {mg : Str → Option Value} {base : Heap} [pf : Sup.PF P fileS]
def sp_law_mark : Sp := fun vs H Q _ => ∃ (g : Addr) (lo hi : Nat), vs = [.ref g, .int lo, .int hi] ∧ PumpAt H g ∧ lo ≤ hi ∧ hi ≤ 100 ∧ ∀ (H' : Hp) (bs : List Bool), But g H H' → PumpAt H' g → lo ≤ bs.length → bs.length ≤ hi → Q (.str (bS bs)) H'
theorem G_law_mark (T : Top K mg) : FnOk P w K mg base CX0 2 T.f_law_mark T.fd_law_mark ["_law_pump_here", "_law_least", "_law_most"] sp_law_mark := by
  refine T.F_law_mark.ok sc_law_mark (fun vs H Q E h => by obtain ⟨g, lo, hi, rfl, _⟩ := h; rfl) (fun cdv A outer s H vs Q E hr h => ?_)
  obtain ⟨g, lo, hi, rfl, hg, h0, h1, q⟩ := h
  refine ⟨_, PSs.nox (pss_cons (ps_par (by rfl) sc_law_mark.nd (i := 4) (j := 5) rfl rfl (by decide) rfl rfl (pa_cons (pe_op op_add (pv 1) (pe_call (G_law_cup (P := P) T) (hr.mono (by decide)) (by rfl) T.g_law_cup T.F_law_cup.kp T.b_law_cup .nil pass0 (pa_cons (pv 0) (pa_cons (pe_op op_add (pe_op op_sub (pv 2) (pv 1)) pe_int) pa_nil)))) (pa_cons (pe_lst pa_nil) pa_nil)) (by rfl))
  (pss_cons (ps_for PassesOwn.never rfl (pi_range1 (by rfl) T.n_range (pa_cons (pv 4) pa_nil)) (pg_name (i := 3) sc_law_mark.nd rfl (by first | exact Or.inl rfl | exact Or.inr rfl))
    (pss_one (ps_expr (pe_bm PySem.F.plainAttrs_list PySem.F.slot_list_append PySem.F.type_list_append mt_append (pv 5) (pa_cons (pe_ix ix_str pe_str (pe_call (G_law_cup (P := P) T) (hr.mono (by decide)) (by rfl) T.g_law_cup T.F_law_cup.kp T.b_law_cup .nil pass0 (pa_cons (pv 0) (pa_cons pe_int pa_nil))) (fun _ _ => rfl)) pa_nil)))))
  (pss_one (ps_ret (pe_join pe_str (pv 5)))))), ?_⟩
  refine ⟨_, rfl, _, rfl, _, rfl, _, rfl, _, _, rfl, rfl, _, _, rfl, rfl, g, _, rfl, hg, by omega, by omega, fun H1 d b1 g1 hd => ?_⟩
  refine ⟨_, _, rfl, rfl, Nat.zero_le _, fun s ns => ?_⟩
  obtain ⟨H2, e2, s2, hs2⟩ := fresh (.lst ([] : List V)) ns
  rw [e2]
  have sg : s ≠ g := g1.ne ns
  refine ⟨_, _, rfl, _, rfl, _, rfl, by omega, by omega, ?_⟩
  refine for_range (lo := 0) (n := ((lo : Int) + (d : Int)).toNat) (fun i σ H3 => ∃ (t : List Bool) (v : Option V), σ = [some (.ref g), some (.int lo), some (.int hi), v, some (.int ((lo : Int) + (d : Int))), some (.ref s)] ∧ But g H1 H3 ∧ PumpAt H3 g ∧ H3 s = some (.lst (My.sg t)) ∧ t.length = i) ⟨[], none, rfl, But.of s2, g1.same s2, hs2, rfl⟩ ?_ ?_
  · rintro i σ H3 hi ⟨t, v, rfl, b3, g3, hs3, hl⟩
    refine ⟨_, rfl, .inl ⟨rfl, _, .inl (.inl hs3)⟩, _, rfl, g, _, rfl, g3, (by decide), (by decide), fun H4 c b4 g4 hc => ?_⟩
    rw [str_01]
    refine ⟨_, _, sgn (c == 1), rfl, rfl, by rw [bS_len]; decide, sign_at hc, ?_⟩
    have hs4 := b4 _ _ sg hs3
    rw [bS_one]
    refine ⟨s, _, _, rfl, rfl, hs4, by rw [My.sg, List.length_map, sizeLine_eq]; omega, ?_⟩
    rw [sg_snoc]
    refine ⟨_, _, rfl, ?_, ?_, upd_same, by rw [List.length_append, hl]; rfl⟩
    · exact (b3.trans b4).over ns
    · exact g4.upd sg
  · rintro σ H3 ⟨t, v, rfl, b3, g3, hs3, hl⟩
    refine ⟨⟨_, rfl⟩, _, rfl, join_sg hs3 (by omega) ?_⟩
    exact q _ t (b1.trans b3) g3 (by omega) (by omega)
def sp_law_keepable : Sp := fun vs H Q _ => ∃ (A : List Bool) (z : Bool), vs = [.str (bS (A ++ [z]))] ∧ A.length ≤ 100 ∧ ∀ H', Same H H' → Q (.bl (decide (z ∈ A))) H'
theorem G_law_keepable (T : Top K mg) : FnOk P w K mg base CX0 1 T.f_law_keepable T.fd_law_keepable ["_law_mark_here"] sp_law_keepable := by
  refine T.F_law_keepable.ok sc_law_keepable (fun vs H Q E h => by obtain ⟨A, z, rfl, _⟩ := h; rfl) (fun cdv A outer s H vs Q E hr h => ?_)
  obtain ⟨A, z, rfl, hz, q⟩ := h
  refine ⟨_, PSs.nox (pss_one (ps_ret (pe_cmpR (k_neD K rfl hr.units) (pe_lc (own := [("_law_bit", 1)]) (g := gName 1) (by rfl) sc_law_keepable.nd (pi_str (pe_slice sl_str (pv 0) po_none (po_some (pe_un un_neg pe_int)))) (blkOk_by (own := [("_law_bit", 1)]) (N := N_law_keepable) (sc := defScope s_law_keepable) (by decide +kernel)) (fun _ _ _ _ _ => (pg_name (i := 1) sc_law_keepable.nd rfl (by first | exact Or.inl rfl | exact Or.inr rfl))) (fun _ _ _ _ _ => (pts_one (pt_cmpR op_eq (pv 1) (pe_ix ix_str (pv 0) (pe_un un_neg pe_int) (fun _ _ => rfl)) (nomark _)))) (fun _ _ _ _ _ => (pv 1))) (pe_lst pa_nil) (nomark _)))), ?_⟩
  have hl : (bS (A ++ [z])).length = A.length + 1 := by rw [bS_len, List.length_append, List.length_singleton]
  refine ⟨_, rfl, _, rfl, _, rfl, _, rfl, by rw [hl, sizeLine_eq]; omega, _, rfl, fun D nD => ?_⟩
  rw [cut_head]
  refine lc_dW walk_str (Has.nil (H := H)) (A.map fun b => if b = z then some (PyData.str (bS [b])) else none) nD (by rw [List.length_map, bS_size]) (by rw [bS_size]; exact small4 (by omega)) (fun _ _ => trivial) ?_ ?_
  · rintro i o H0 x H' hi ho s0 hS ⟨rfl, c, hc, rfl⟩ Qt qt
    obtain ⟨b, hb, ec⟩ := bS_at hc
    rw [ec]
    refine ⟨rfl, ?_⟩
    rw [List.getElem?_map, hb] at ho
    cases ho
    refine ⟨_, rfl, _, rfl, _, rfl, _, _, sgn z, rfl, rfl, by rw [hl, sizeLine_eq]; omega, at_last A z, rfl, _, rfl, ?_⟩
    rw [bS_one, dec_bS]
    dsimp only at qt
    by_cases hbz : b = z
    · rw [if_pos hbz] at qt
      exact iteDT (by rw [hbz]) ⟨_, rfl, qt _ _ (Same.refl _) (.str _)⟩
    · rw [if_neg hbz] at qt
      exact iteDF (fun h => hbz (List.cons.inj h).1) (qt none _ (Same.refl _) trivial)
  · intro H' s hD hd
    rw [rs_nil] at hd
    refine ⟨Nat.zero_le _, fun p np => ?_⟩
    have ef : ∀ A : List Bool, (A.map fun b => if b = z then some (PyData.str (bS [b])) else none).filterMap id = ((A.filter (· == z)).map fun b => bS [b]).map PyData.str := fun A => by
      induction A with
      | nil => rfl
      | cons b r ih =>
        rw [List.map_cons, List.filterMap_cons, List.filter_cons]
        by_cases h : b = z
        · rw [if_pos h, if_pos (beq_iff_eq.mpr h), ih]
          rfl
        · rw [if_neg h, if_neg (fun k => h (beq_iff_eq.mp k)), ih]
          rfl
    rw [ef] at hd
    refine ⟨_, _, (Dt.same (same_upd np) hd).dp, .lst (.inl (.inl upd_same)) .nil, strs_shaped (fun x hx => by obtain ⟨b, _, rfl⟩ := List.mem_map.mp hx; exact strok_bS _), rfl, ?_⟩
    have e0 : (!PyData.eqv (.list (((A.filter (· == z)).map fun b => bS [b]).map PyData.str)) (.list [])) = decide (z ∈ A) := by
      by_cases h : z ∈ A
      · rw [decide_eq_true h]
        cases hf : A.filter (· == z) with
        | nil => exact absurd h (fun h => by have h2 : z ∈ A.filter (· == z) := List.mem_filter.mpr ⟨h, beq_self_eq_true z⟩; rw [hf] at h2; cases h2)
        | cons y r => rfl
      · rw [decide_eq_false h, List.filter_eq_nil_iff.mpr fun b hb k => h (by rw [← (beq_iff_eq.mp (show (b == z) = true from k))]; exact hb)]
        rfl
    rw [e0]
    exact q _ (s.trans (same_upd np))
def sp_law_keepable_mark : Sp := fun vs H Q _ => ∃ (g : Addr) (lo hi : Nat), vs = [.ref g, .int lo, .int hi] ∧ PumpAt H g ∧ 2 ≤ lo ∧ lo ≤ hi ∧ hi ≤ 16 ∧ ∀ (H' : Hp) (A : List Bool) (z : Bool), But g H H' → PumpAt H' g → 1 ≤ A.length → A.length + 1 ≤ hi → Keep A z → Q (.str (bS (A ++ [z]))) H'
theorem G_law_keepable_mark (T : Top K mg) : FnOk P w K mg base CX0 3 T.f_law_keepable_mark T.fd_law_keepable_mark ["_law_pump_here", "_law_least", "_law_most"] sp_law_keepable_mark := by
  refine T.F_law_keepable_mark.ok sc_law_keepable_mark (fun vs H Q E h => by obtain ⟨g, lo, hi, rfl, _⟩ := h; rfl) (fun cdv A outer s H vs Q E hr h => ?_)
  obtain ⟨g, lo, hi, rfl, hg, h0, h1, h2, q⟩ := h
  refine ⟨_, PSs.nox (pss_cons (ps_set (i := 3) sc_law_keepable_mark.nd rfl (by first | exact Or.inl rfl | exact Or.inr rfl) (pe_call (G_law_mark (P := P) T) (hr.mono (by decide)) (by rfl) T.g_law_mark T.F_law_mark.kp T.b_law_mark .nil pass0 (pa_cons (pv 0) (pa_cons (pv 1) (pa_cons (pv 2) pa_nil)))))
  (pss_one (ps_ret (pe_ifExp (pt_val (pe_call (G_law_keepable (P := P) T) (hr.mono (by decide)) (by rfl) T.g_law_keepable T.F_law_keepable.kp T.b_law_keepable .nil pass0 (pa_cons (pv 3) pa_nil))) (pv 3) (pe_op op_rep_str (pe_ix ix_str (pv 3) (pe_un un_neg pe_int) (fun _ _ => rfl)) (pe_callB call_len_str (by rfl) T.n_len (by decide +kernel) (pa_cons (pv 3) pa_nil))))))), ?_⟩
  refine ⟨_, rfl, _, rfl, _, rfl, g, lo, hi, rfl, hg, h1, by omega, fun H1 bs b1 g1 l1 l2 => ?_⟩
  obtain ⟨A, z, rfl⟩ : ∃ A z, bs = A ++ [z] := ⟨bs.dropLast, bs.getLast (by intro e; rw [e] at l1; simp at l1; omega), (List.dropLast_concat_getLast _).symm⟩
  rw [List.length_append, List.length_singleton] at l1 l2
  have hl : (bS (A ++ [z])).length = A.length + 1 := by rw [bS_len, List.length_append, List.length_singleton]
  refine ⟨_, rfl, A, z, rfl, by omega, fun H2 s2 => ⟨_, rfl, ?_⟩⟩
  by_cases h : z ∈ A
  · rw [decide_eq_true h]
    refine iteT ⟨_, rfl, ?_⟩
    refine q _ A z (b1.same s2) (g1.same s2) (by omega) (by omega) ⟨fun e => by rw [e] at l1; simp at l1; omega, fun e => ?_⟩
    rw [e] at h
    have := List.eq_of_mem_replicate h
    cases z <;> cases this
  · rw [decide_eq_false h]
    refine iteF ⟨_, rfl, _, rfl, _, _, sgn z, rfl, rfl, by rw [hl, sizeLine_eq]; omega, at_last A z, ?_⟩
    rw [bS_one]
    refine ⟨_, rfl, _, rfl, by rw [hl, sizeLine_eq]; omega, ?_⟩
    rw [hl]
    refine ⟨_, A.length + 1, rfl, rfl, by rw [bS_len]; show 1 ≤ 100; decide, by omega, ?_⟩
    rw [bS_muls, List.replicate_succ']
    have := q _ (List.replicate A.length z) z (b1.same s2) (g1.same s2) (by rw [List.length_replicate]; omega) (by rw [List.length_replicate]; omega) ⟨fun e => by
      have := congrArg List.length e
      rw [List.length_replicate, List.length_nil] at this
      omega, fun e => ?_⟩
    · exact this
    · have h0 : z ∈ List.replicate A.length z := List.mem_replicate.mpr ⟨by omega, rfl⟩
      rw [e] at h0
      have := List.eq_of_mem_replicate h0
      cases z <;> cases this
def sp_law_bits : Sp := fun vs H Q _ => ∃ (g : Addr) (most : Nat), vs = [.ref g, .int most] ∧ PumpAt H g ∧ most ≤ 100 ∧ ∀ (H' : Hp) (bs : List Bool), But g H H' → PumpAt H' g → bs.length ≤ most → Q (.str (bS bs)) H'
theorem stuff_take {A : List Bool} {z : Bool} {bs : List Bool} {i : Nat} {b : Bool} (hb : bs[i]? = some b) : stuff A z (bs.take (i + 1)) = if A <:+ stuff A z (bs.take i) ++ [b] then stuff A z (bs.take i) ++ [b] ++ [!z] else stuff A z (bs.take i) ++ [b] := by
  have ht : bs.take (i + 1) = bs.take i ++ [b] := by rw [List.take_add_one, hb]; rfl
  rw [ht, stuff_snoc]
def sp_law_stuffed : Sp := fun vs H Q _ => ∃ (A : List Bool) (z : Bool) (bs : List Bool), vs = [.str (bS (A ++ [z])), .str (bS bs)] ∧ A.length ≤ 100 ∧ bs.length ≤ 10000 ∧ Q (.str (bS (stuff A z bs))) H
def sp_law_words : Sp := fun vs H Q _ => ∃ n : Nat, vs = [.int n] ∧ n ≤ 10 ∧ ∀ H' a, Same H H' → H a = none → H' a = some (.lst ((wds n).map fun x => V.str (bS x))) → Q (.ref a) H'
theorem G_law_words (T : Top K mg) : FnOk P w K mg base CX0 1 T.f_law_words T.fd_law_words ["_law_many"] sp_law_words := by
  refine T.F_law_words.ok sc_law_words (fun vs H Q E h => by obtain ⟨n, rfl, _⟩ := h; rfl) (fun cdv A outer s H vs Q E hr h => ?_)
  obtain ⟨n, rfl, hz, q⟩ := h
  refine ⟨_, PSs.nox (pss_cons (ps_set (i := 1) sc_law_words.nd rfl (by first | exact Or.inl rfl | exact Or.inr rfl) (pe_lst (pa_cons pe_str pa_nil)))
  (pss_cons (ps_for PassesOwn.never rfl (pi_range1 (by rfl) T.n_range (pa_cons (pv 0) pa_nil)) (pg_name (i := 2) sc_law_words.nd rfl (by first | exact Or.inl rfl | exact Or.inr rfl))
    (pss_cons (ps_set (i := 3) sc_law_words.nd rfl (by first | exact Or.inl rfl | exact Or.inr rfl) (pe_lst pa_nil))
  (pss_cons (ps_for PassesOwn.never rfl (k_piL K rfl (pv 1)) (pg_name (i := 4) sc_law_words.nd rfl (by first | exact Or.inl rfl | exact Or.inr rfl))
    (pss_one (ps_set (i := 3) sc_law_words.nd rfl (by first | exact Or.inl rfl | exact Or.inr rfl) (pe_op op_cat (pv 3) (pe_lst (pa_cons (pe_op op_add_str (pv 4) pe_str) (pa_cons (pe_op op_add_str (pv 4) pe_str) pa_nil)))))))
  (pss_one (ps_set (i := 1) sc_law_words.nd rfl (by first | exact Or.inl rfl | exact Or.inr rfl) (pv 3))))))
  (pss_one (ps_ret (pv 1))))), ?_⟩
  refine ⟨by show 1 ≤ sizeLine; decide, fun a na => ?_⟩
  obtain ⟨H1, e1, s1, ha1⟩ := fresh (.lst [V.str (("" : String) : Str)]) na
  rw [e1]
  rw [str_nil] at ha1
  refine ⟨_, rfl, _, rfl, by omega, by omega, ?_⟩
  refine for_range (lo := 0) (n := ((n : Int)).toNat) (fun i σ H2 => ∃ (b : Addr) (v2 v3 v4 : Option V), σ = [some (.int n), some (.ref b), v2, v3, v4] ∧ Same H H2 ∧ H b = none ∧ H2 b = some (.lst ((wds i).map fun x => V.str (bS x)))) ⟨a, none, none, none, rfl, s1, na, ha1⟩ ?_ ?_
  · rintro i σ H2 hi ⟨b, v2, v3, v4, rfl, s2, nb, hb2⟩
    refine ⟨Nat.zero_le _, fun c nc => ?_⟩
    obtain ⟨H3, e3, s3, hc3⟩ := fresh (.lst ([] : List V)) nc
    rw [e3]
    have bc : b ≠ c := ne_of_none hb2 nc
    refine ⟨_, rfl, b, rfl, ⟨_, .inl (.inl (s3 _ _ hb2))⟩, for_list (K := K) (a := b) (xs := (wds i).map fun x => V.str (bS x)) (fun j σ H4 => ∃ (d : Addr) (v4 : Option V), σ = [some (.int n), some (.ref b), some (.int (0 + (i : Int))), some (.ref d), v4] ∧ Same H2 H4 ∧ H2 d = none ∧ H4 d = some (.lst ((((wds i).take j).flatMap fun x => [x ++ [false], x ++ [true]]).map fun x => V.str (bS x)))) ⟨c, v4, rfl, s3, nc, hc3⟩ (fun j σ H4 _ ⟨_, _, _, s4, _⟩ => .inl (.inl (s4 _ _ hb2))) ?_ ?_⟩
    · rintro j x σ H4 hx ⟨d, v4, rfl, s4, nd, hd4⟩
      rw [List.getElem?_map] at hx
      obtain ⟨y, hy, rfl⟩ := Option.map_eq_some_iff.mp hx
      have ly : y.length = i := (wds_mem i y).mp (List.mem_of_getElem? hy)
      have hlw := flat2_len ((wds i).take j)
      have hj : ((wds i).take j).length ≤ 1024 := by
        rw [List.length_take, wds_len]
        have : 2 ^ i ≤ 2 ^ 10 := Nat.pow_le_pow_right (by decide) (by omega)
        omega
      have hl1 : (bS y).length = i := by rw [bS_len, ly]
      refine ⟨_, rfl, _, rfl, _, _, rfl, rfl, by rw [hl1, str_zero, bS_len, sizeLine_eq]; show i + 1 ≤ _; omega, _, rfl, _, _, rfl, rfl, by rw [hl1, str_one, bS_len, sizeLine_eq]; show i + 1 ≤ _; omega, (by show 2 ≤ sizeLine; decide), fun p np => ?_⟩
      obtain ⟨H5, e5, s5, hp5⟩ := fresh (.lst [V.str (bS y ++ (("0" : String) : Str)), V.str (bS y ++ (("1" : String) : Str))]) np
      rw [e5]
      refine ⟨d, p, _, _, rfl, rfl, s5 _ _ hd4, hp5, by rw [List.length_map, hlw, sizeLine_eq]; show _ + 2 ≤ _; omega, fun e ne => ?_⟩
      refine ⟨e, _, rfl, (s4.trans s5).trans (same_upd ne), (s4.trans s5).free ne, ?_⟩
      rw [upd_same, List.take_add_one, hy, List.flatMap_append, List.map_append, str_zero, str_one, bS_app, bS_app]
      rfl
    · rintro σ H4 ⟨d, v4, rfl, s4, nd, hd4⟩
      rw [List.length_map, List.take_length] at hd4
      exact ⟨_, rfl, d, _, _, v4, rfl, s2.trans s4, s2.free nd, hd4⟩
  · rintro σ H2 ⟨b, v2, v3, v4, rfl, s2, nb, hb2⟩
    rw [Int.toNat_natCast] at hb2
    exact ⟨_, rfl, q _ b s2 nb hb2⟩
theorem cut_mid (A : List Bool) (z : Bool) (k : Nat) : cutS (bS (A ++ [z])) (some (k : Int)) (some (-1)) = bS (A.drop k) := by
  unfold cutS
  have e : HT.sIx (bS (A ++ [z])).length (bS (A ++ [z])).length (some (-1)) = A.length := by
    show (if (-1 : Int) < 0 then ((-1 : Int) + (((bS (A ++ [z])).length : Nat) : Int)).toNat else min (-1 : Int).toNat (bS (A ++ [z])).length) = _
    rw [if_pos (by decide), bS_len, List.length_append, List.length_singleton]
    omega
  rw [e, HT.sIx_nat, bS_list, bS_len, List.length_append, List.length_singleton]
  have : ((A ++ [z]).map sgn).drop (min k (A.length + 1)) = ((A ++ [z]).drop (min k (A.length + 1))).map sgn := List.map_drop.symm
  rw [this, ← List.map_take]
  show bS _ = bS _
  congr 1
  by_cases h : k ≤ A.length
  · rw [Nat.min_eq_left (by omega), List.drop_append_of_le_length h, List.take_append_of_le_length (by rw [List.length_drop]; exact Nat.le_refl _), List.take_of_length_le (by rw [List.length_drop]; exact Nat.le_refl _)]
  · rw [show A.length - min k (A.length + 1) = 0 by omega, List.drop_of_length_le (l := A) (by omega)]
    rfl
def sp_law_row : Sp := fun vs H Q _ => ∃ (g : Addr) (A : List Bool) (z : Bool) (most : Nat), vs = [.ref g, .str (bS (A ++ [z])), .int most] ∧ PumpAt H g ∧ A.length ≤ 15 ∧ most ≤ 100 ∧ ∀ (H' : Hp) (bs : List Bool), But g H H' → PumpAt H' g → bs.length ≤ most → Q (.str (bS bs)) H'
end
end My

namespace My
open PySem PySem.Spec PyProof.Rows L2 Pre
open Sem (wp)
/-! ### zip(xs, ys, strict=True) of lists and tuples of one length -/
/-- a strict zip object -/
abbrev SZip (h : Heap) (z TI TO : Addr) (f0 : Value) : Prop :=
  h.get? z = some { cls := .type "zip", dict := none, data := .fields #[f0, .bool false, .bool true, .ref TI, .ref TO], slots := #[] }
section
variable {prog : Program} {w : World} {A : Around} {E : Value → Shared → Prop} {s : Shared}
theorem draw_some {it : Addr} {fp : List Addr} {n i : Nat} {Pd : Nat → Value → Prop} {St : Nat → Heap → Prop} {Q : Option Value → Shared → Prop} (Dr : Draws prog w A it fp n Pd St) (lt : i < n) (st : St i s.heap)
    (go : ∀ x g' tk, Pd i x → St (i + 1) g' → Heap.SameBut it s.heap g' → Q (some x) { s with heap := g', toks := tk }) : wpAny (model prog w) A (Builtin.SmallTypes.nextOrEnd (.ref it)) Q E s := by
  unfold Builtin.SmallTypes.nextOrEnd
  exact wpAny_bind (wpAny_attempt (Dr.item i _ _ _ lt st fun x g' tk px st' sb => wpAny_pure (go x g' tk px st' sb)))
theorem draw_none {it : Addr} {fp : List Addr} {n : Nat} {Pd : Nat → Value → Prop} {St : Nat → Heap → Prop} {Q : Option Value → Shared → Prop} (Dr : Draws prog w A it fp n Pd St) (st : St n s.heap)
    (go : ∀ g', Heap.ExtBut it s.heap g' → Q none { s with heap := g' }) : wpAny (model prog w) A (Builtin.SmallTypes.nextOrEnd (.ref it)) Q E s := by
  unfold Builtin.SmallTypes.nextOrEnd
  refine wpAny_bind (wpAny_attempt (Dr.done _ _ _ st fun g' e ext he => ?_))
  obtain ⟨o, ho, hc⟩ := he
  exact wpAny_bind (wpAny_isInstance (T := "StopIteration") (b := true) ⟨o, ho, hc⟩ isSubtype_stop (wpAny_pure (go g' ext)))
theorem stop_raised {α : Type} {Q : α → Shared → Prop} (hh : A.handled = none) (go : ∀ g' e, (∀ c o, s.heap.get? c = some o → g'.get? c = some o) → (∃ o, g'.get? e = some o ∧ o.cls = .type "StopIteration") → E (.ref e) { s with heap := g' }) :
    wpAny (model prog w) A (Builtin.SmallTypes.stopIteration (α := α)) Q E s := by
  (show wpAny _ _ (newExc (.type "StopIteration") [] >>= _) _ _ _); refine wpAny_bind ?_; simp only [newExc, newTuple]
  refine wpAny_bind (wpAny_newObj_type (wpAny_bind (m := firstArgMember _ _) (wpAny_of_eq (a := Value.none) (by first | rfl | (simp only [firstArgMember]; rfl)) (wpAny_newObj_type ?_ (by size_fits)))) (by size_fits))
  simp only [raiseNew]; refine wpAny_bind (wpAny_handled ?_); rw [hh]; refine wpAny_bind (wpAny_pure (wpAny_throw ?_))
  exact go _ _ (fun c o e => Heap.get?_push_of_some _ (Heap.get?_push_of_some _ e)) ⟨_, Heap.get?_push_size _ rfl, rfl⟩
theorem zs_next (hh : A.handled = none) {z TI TO i1 i2 : Addr} {fp1 fp2 : List Addr} {n i : Nat} {Pa Pb : Nat → Value → Prop} {Sa Sb : Nat → Heap → Prop} {a b : Value} {Q : Value → Shared → Prop} (S : ZipSep2 z TI TO i1 i2 fp1 fp2)
    (Da : Draws prog w A i1 fp1 n Pa Sa) (Db : Draws prog w A i2 fp2 n Pb Sb) (hz : SZip s.heap z TI TO .none) (hI : IsTupOf2 s.heap TI (.ref i1) (.ref i2)) (hO : IsTupOf2 s.heap TO a b) (sa : Sa i s.heap) (sb : Sb i s.heap) (le : i ≤ n)
    (goes : i < n → ∀ x y g' tk, Pa i x → Pb i y → SZip g' z TI TO (rawInt s.heap.objs.size) → IsTupOf2 g' TO x y → Sa (i + 1) g' → Sb (i + 1) g' → IsTupOf2 g' s.heap.objs.size x y → g'.objs.size = s.heap.objs.size + 1 →
      (∀ c o, c ≠ z → c ≠ TO → c ≠ i1 → c ≠ i2 → s.heap.get? c = some o → g'.get? c = some o) → Q (.ref s.heap.objs.size) { s with heap := g', toks := tk })
    (ends : i = n → ∀ g' tk e, (∀ c o, c ≠ z → c ≠ TO → c ≠ i1 → c ≠ i2 → s.heap.get? c = some o → g'.get? c = some o) → (∃ o, g'.get? e = some o ∧ o.cls = .type "StopIteration") → E (.ref e) { s with heap := g', toks := tk }) :
    wpAny (model prog w) A (Builtin.«zip.__next__» ⟨[.ref z], []⟩) (fun fin s' => ∃ v, fin = .done (.ret v) ∧ Q v s') E s := by
  obtain ⟨hp, gs, dr, tk0, os⟩ := s
  (show wpAny _ _ (field (.ref z) 2 >>= _) _ _ _); refine wpAny_bind (wpAny_field hz rfl (x := .bool true) rfl ?_)
  (show wpAny _ _ (field (.ref z) 3 >>= _) _ _ _); refine wpAny_bind (wpAny_field hz rfl (x := .ref TI) rfl (wpAny_bind (wpAny_seqItems hI rfl ?_)))
  (show wpAny _ _ (Builtin.SmallTypes.ownedTupleIsFree (.ref z) >>= _) _ _ _); refine wpAny_bind ?_; unfold Builtin.SmallTypes.ownedTupleIsFree
  refine wpAny_bind (wpAny_field hz rfl (x := .none) rfl (wpAny_pure ?_)); simp only [if_true]; refine wpAny_bind (wpAny_rule (wpAny_bind (wpAny_field hz rfl (x := .ref TO) rfl ?_)))
  refine wpAny_bind (wpAny_setField_rec hz (by simp) fun g0 hz0 k0 => ?_)
  replace hz0 : SZip g0 z TI TO .ellipsis := hz0; replace k0 : Heap.SameBut z hp g0 := k0
  refine wpAny_bind ?_; simp only [List.zipIdx_cons, List.zipIdx_nil, List.forIn_cons, List.forIn_nil]; refine wpAny_bind (wpAny_bind (wpAny_onRaise ?_))
  (show wpAny _ _ (Builtin.SmallTypes.nextOrEnd (.ref i1)) _ _ ⟨g0, gs, dr, tk0, os⟩)
  rcases Nat.lt_or_ge i n with lt | ge
  · refine draw_some Da lt (Da.over sa k0 S.zf1) fun x p1 tk1 hx sn1 k1 => ?_
    have u1 : IsTupOf2 p1 TO a b := k1.extBut _ _ S.Ti1 (k0.extBut _ _ S.TOz hO)
    refine wpAny_bind (wpAny_seqItems (s := ⟨p1, gs, dr, tk1, os⟩) u1 rfl (wpAny_bind (updateSeq_IsTupOf2 (s := ⟨p1, gs, dr, tk1, os⟩) u1 fun g1 t1 m1 => wpAny_bind (wpAny_letGo (wpAny_pure ?_)))))
    replace t1 : IsTupOf2 g1 TO x b := t1; replace m1 : Heap.SameBut TO p1 g1 := m1
    refine wpAny_bind (wpAny_bind (wpAny_onRaise ?_)); (show wpAny _ _ (Builtin.SmallTypes.nextOrEnd (.ref i2)) _ _ ⟨g1, gs, dr, tk1, os⟩)
    refine draw_some Db lt (Db.over (Db.over (Db.over sb k0 S.zf2) k1 S.sep1_2) m1 S.Tf2) fun y p2 tk2 hy sn2 k2 => ?_
    replace k2 : Heap.SameBut i2 g1 p2 := k2
    have u2 : IsTupOf2 p2 TO x b := k2.extBut _ _ S.Ti2 t1
    refine wpAny_bind (wpAny_seqItems (s := ⟨p2, gs, dr, tk2, os⟩) u2 rfl (wpAny_bind (updateSeq_IsTupOf2 (s := ⟨p2, gs, dr, tk2, os⟩) u2 fun g2 t2 m2 => wpAny_bind (wpAny_letGo (wpAny_pure (wpAny_pure ?_))))))
    replace t2 : IsTupOf2 g2 TO x y := t2; replace m2 : Heap.SameBut TO p2 g2 := m2
    refine wpAny_bind (wpAny_seqItems (s := ⟨g2, gs, dr, tk2, os⟩) t2 rfl (wpAny_bind (wpAny_newTuple ?_)))
    have size2 : g2.objs.size = hp.objs.size := by rw [m2.1, k2.1, m1.1, k1.1, k0.1]
    have zz : SZip g2 z TI TO .ellipsis := m2.extBut _ _ S.TOz.symm (k2.extBut _ _ S.zi2 (m1.extBut _ _ S.TOz.symm (k1.extBut _ _ S.zi1 hz0)))
    have stay : ∀ c o, c ≠ z → c ≠ TO → c ≠ i1 → c ≠ i2 → hp.get? c = some o → g2.get? c = some o := fun c o cz cT c1 c2 e => m2.extBut _ _ cT (k2.extBut _ _ c2 (m1.extBut _ _ cT (k1.extBut _ _ c1 (k0.extBut _ _ cz e))))
    have na : Sa (i + 1) g2 := Da.over (Da.over (Da.over sn1 m1 S.Tf1) k2 S.sep2_1) m2 S.Tf1
    have nb : Sb (i + 1) g2 := Db.over sn2 m2 S.Tf2
    have zl : z < g2.objs.size := Heap.lt_size zz
    (show wpAny _ _ (Builtin.SmallTypes.ownedTupleHandOut (.ref z) (.ref g2.objs.size) >>= _) _ _ ⟨g2.push { cls := .type "tuple", data := .seq #[x, y] }, gs, dr, tk2, os⟩); refine wpAny_bind ?_; unfold Builtin.SmallTypes.ownedTupleHandOut
    have z3 : SZip (g2.push { cls := .type "tuple", data := .seq #[x, y] }) z TI TO .ellipsis := Heap.get?_push_of_some _ zz
    refine wpAny_bind (wpAny_setField_rec z3 (by simp) fun g4 z4 k4 => ?_)
    replace z4 : SZip g4 z TI TO (rawInt g2.objs.size) := z4
    refine wpAny_setField_rec z4 (by simp) fun g5 z5 k5 => ?_
    replace z5 : SZip g5 z TI TO (rawInt g2.objs.size) := z5; replace k4 : Heap.SameBut z (g2.push { cls := .type "tuple", data := .seq #[x, y] }) g4 := k4; replace k5 : Heap.SameBut z g4 g5 := k5
    have up5 : ∀ c o, c ≠ z → g2.get? c = some o → g5.get? c = some o := fun c o cz e => k5.extBut _ _ cz (k4.extBut _ _ cz (Heap.get?_push_of_some _ e))
    have t5 : IsTupOf2 g5 g2.objs.size x y := k5.extBut _ _ (Nat.ne_of_gt zl) (k4.extBut _ _ (Nat.ne_of_gt zl) (Heap.get?_push_size _ rfl))
    have size5 : g5.objs.size = g2.objs.size + 1 := by rw [k5.1, k4.1, Heap.size_push]
    rw [size2] at z5 t5 size5
    refine wpAny_pure ⟨_, rfl, ?_⟩; (show Q (.ref g2.objs.size) ⟨g5, gs, dr, tk2, os⟩); rw [size2]
    exact goes lt x y g5 tk2 hx hy z5 (up5 _ _ S.TOz t2) (Da.frame _ _ _ na fun c hc o e => up5 c o (fun q => S.zf1 (q ▸ hc)) e) (Db.frame _ _ _ nb fun c hc o e => up5 c o (fun q => S.zf2 (q ▸ hc)) e) t5 size5 fun c o cz cT c1 c2 e => up5 c o cz (stay c o cz cT c1 c2 e)
  · have ei : i = n := Nat.le_antisymm le ge
    subst ei
    refine draw_none Da (Da.over sa k0 S.zf1) fun g1 x1 => ?_
    replace x1 : Heap.ExtBut i1 g0 g1 := x1
    have z1 : SZip g1 z TI TO .ellipsis := x1 _ _ S.zi1 hz0
    refine wpAny_bind (wpAny_setField_rec (s := ⟨g1, gs, dr, tk0, os⟩) z1 (by simp) fun g2 z2 k2 => ?_)
    replace k2 : Heap.SameBut z g1 g2 := k2
    refine wpAny_bind ?_
    (show wpAny _ _ (forIn _ _ _ >>= _) _ _ ⟨g2, gs, dr, tk0, os⟩)
    simp only [List.drop_succ_cons, List.drop_zero, List.zipIdx_cons, List.zipIdx_nil, List.forIn_cons, List.forIn_nil]
    refine wpAny_bind (wpAny_bind (wpAny_bind (draw_none Db (s := ⟨g2, gs, dr, tk0, os⟩) (Db.frame _ _ _ sb fun c hc o e => ?_) fun g3 x3 => ?_)))
    · have cz : c ≠ z := fun q => S.zf2 (q ▸ hc)
      exact k2.extBut _ _ cz (x1 _ _ (fun q => S.sep1_2 (q ▸ hc)) (k0.extBut _ _ cz e))
    simp only [Option.isSome_none, Bool.false_eq_true, if_false]
    refine wpAny_pure (wpAny_pure (wpAny_bind (wpAny_rule (stop_raised (s := ⟨g3, gs, dr, tk0, os⟩) hh fun g4 e x4 he => ?_))))
    exact ends rfl g4 tk0 e (fun c o cz _ c1 c2 q => x4 _ _ (x3 _ _ c2 (k2.extBut _ _ cz (x1 _ _ c1 (k0.extBut _ _ cz q))))) he
theorem sz_type {z TI TO : Addr} {f0 : Value} (hz : SZip s.heap z TI TO f0) : s.TypeIs (.ref z) "zip" := ⟨_, hz, rfl⟩
theorem zs_pyNext (hh : A.handled = none) {z TI TO i1 i2 : Addr} {fp1 fp2 : List Addr} {n i : Nat} {Pa Pb : Nat → Value → Prop} {Sa Sb : Nat → Heap → Prop} {a b : Value} {Q : Option Value → Shared → Prop} (S : ZipSep2 z TI TO i1 i2 fp1 fp2)
    (Da : Draws prog w A.in1 i1 fp1 n Pa Sa) (Db : Draws prog w A.in1 i2 fp2 n Pb Sb) (hz : SZip s.heap z TI TO .none) (hI : IsTupOf2 s.heap TI (.ref i1) (.ref i2)) (hO : IsTupOf2 s.heap TO a b) (sa : Sa i s.heap) (sb : Sb i s.heap) (le : i ≤ n)
    (goes : i < n → ∀ x y g' tk, Pa i x → Pb i y → SZip g' z TI TO (rawInt s.heap.objs.size) → IsTupOf2 g' TO x y → Sa (i + 1) g' → Sb (i + 1) g' → IsTupOf2 g' s.heap.objs.size x y → g'.objs.size = s.heap.objs.size + 1 →
      (∀ c o, c ≠ z → c ≠ TO → c ≠ i1 → c ≠ i2 → s.heap.get? c = some o → g'.get? c = some o) → Q (some (.ref s.heap.objs.size)) { s with heap := g', toks := tk })
    (ends : i = n → ∀ g' tk, (∀ c o, c ≠ z → c ≠ TO → c ≠ i1 → c ≠ i2 → s.heap.get? c = some o → g'.get? c = some o) → Q none { s with heap := g', toks := tk }) :
    wpAny (model prog w) A (pyNext (.ref z)) Q E s := by
  unfold pyNext
  refine wpAny_bind (wpAny_attempt (wpAny_callSpecial?_slot (name := Str.ofString "__next__") (sz_type hz) F.slot_zip_next (wpAny_call_entry F.slot_zip_next (sz_type hz) F.entry_zip_next (zs_next (A := A.in1) (show A.in1.handled = none from hh) S Da Db hz hI hO sa sb le (fun lt x y g' tk p1 p2 p3 p4 p5 p6 p7 p8 p9 => wpAny_pure (goes lt x y g' tk p1 p2 p3 p4 p5 p6 p7 p8 p9)) fun e1 g' tk e k he => ?_) (F.args_zip_next_1 _))))
  obtain ⟨o, ho, hc⟩ := he
  exact wpAny_bind (wpAny_isInstance (T := "StopIteration") (b := true) ⟨o, ho, hc⟩ isSubtype_stop (wpAny_pure (ends e1 g' tk k)))
theorem zs_go {elts : List Expr} {k1} {pos : Pos} {z TI TO T : Addr} {Q : Unit → Shared → Prop} (hz : SZip s.heap z TI TO (rawInt T)) (go : ∀ g', SZip g' z TI TO .none → Heap.SameBut z s.heap g' → Q () { s with heap := g' }) :
    wpAny (model prog w) A (letOwnedTupleGo (.Tuple elts k1 pos) (.ref z) (.ref T)) Q E s := by
  unfold letOwnedTupleGo
  refine wpAny_bind (wpAny_load hz ?_)
  show wpAny _ _ (if (["enumerate", "zip", "dict_itemiterator", "dict_reverseitemiterator", "odict_iterator", "itertools.zip_longest", "itertools.pairwise"].contains "zip" && (#[rawInt T, .bool false, .bool true, .ref TI, .ref TO] : Array Value)[0]? == some (rawInt T)) = true then _ else _) Q E s
  rw [if_pos (by simp)]; refine wpAny_bind (wpAny_rule ?_); (show wpAny _ _ (setField (.ref z) 0 .none) Q E s)
  exact wpAny_setField_rec hz (by simp) fun g' z' k' => go g' z' k'
theorem zs_iter {z TI TO : Addr} {f0 : Value} {Q : Value → Shared → Prop} (hz : SZip s.heap z TI TO f0) (go : Q (.ref z) s) : wpAny (model prog w) A (pyIter (.ref z)) Q E s := by
  refine wpAny_pyIter_slot (sz_type hz) F.slot_zip_iter (wpAny_call_entry F.slot_zip_iter (sz_type hz) F.entry_zip_iter ?_ (F.args_zip_iter_1 _))
  (show wpAny _ _ (ret (.ref z)) _ _ s); exact wpAny_pure ⟨_, rfl, "zip", _, sz_type hz, F.slot_zip_next.lookup, go⟩
end
end My

namespace My
open PySem PySem.Spec PyProof.Rows L2 Pre
open Sem (wp)
theorem zs_tc (a b : Value) : checkTypeCall "zip" ⟨[a, b], [("strict", .bool true)]⟩ = pure () := by kernel_rfl
theorem zs_nc (a b : Value) : checkBuiltinCall "zip.__new__" ⟨[.type "zip", a, b], [("strict", .bool true)]⟩ = pure () := by kernel_rfl
theorem zs_ao (a b c : Value) : argsOk "object.__init__" ⟨[a, b, c], [("strict", .bool true)]⟩ := by
  unfold argsOk; rw [signature?_of (id := "object.__init__") (n := ['_', '_', 't', 'i', 'n', 'i', '_', '_']) (o := ['t', 'c', 'e', 'j', 'b', 'o']) (by kernel_rfl) PySem.F.owner_object]; kernel_rfl
section
variable {prog : Program} {w : World} {A : Around} {E : Value → Shared → Prop} {s : Shared}
theorem zs_init (v a b : Value) : Meets (Builtin.«object.__init__» ⟨[v, a, b], [("strict", .bool true)]⟩) (fun _ R s => s.TypeIs v "zip" ∧ R (.ok (.ret .none)) s) := by
  refine Meets.of_wp fun prog w A R s hs => ?_
  obtain ⟨hT, hq⟩ := hs; have hl := PySem.F.called_zip.init.lookup; have hm := PySem.F.called_zip.made
  repeat (any_goals (first | assumption | wp_step))
  exact ⟨_, rfl, hq⟩
theorem zs_call {a b : Value} {S : PySem.Spec} {Q : Value → Shared → Prop} (g : Meets (Builtin.«zip.__new__» ⟨[.type "zip", a, b], [("strict", .bool true)]⟩) S) (h : S A.in1 (wants (fun v s' => s'.TypeIs v "zip" ∧ Q v s') E) s) :
    wpAny (model prog w) A (call (.type "zip") [a, b] [("strict", .bool true)]) Q E s := by
  have ft := PySem.F.called_zip
  obtain ⟨c, tl, hmro⟩ := ft.mro
  have hmade := ft.made
  have hsub := ft.sub
  refine wpAny_call (codeAny_of_tree ?_)
  show wpAny _ _ (callAny (.type "zip") _) _ _ _
  refine wpAny_pure ⟨Code.quiet_builtin _ (by decide +kernel), codeAny_builtin PySem.F.entry_type_call ?_⟩
  rw [Around.under_plain (weight_type_call_type "zip" [a, b] [("strict", .bool true)]) (units_type_call_type "zip" [a, b] [("strict", .bool true)])]
  have h1 := ft.notType
  have h2 := ft.canCreate
  have htc := zs_tc a b
  repeat (any_goals (first | assumption | wp_step))
  refine codeAny_mono (codeAny_call_builtin ft.plain PySem.F.entry_zip_new (wpAny_of_eq (zs_nc a b) (g prog w A.in1 _ s h))) fun r s₁ hr => ?_
  cases r with
  | error e => exact hr
  | ok fl =>
    cases fl with
    | ret obj =>
      obtain ⟨hT, hq⟩ := hr
      have hli := ft.init.lookup
      have hbi := ft.init.bind obj
      repeat (any_goals (first | assumption | wp_step))
      refine codeAny_mono (codeAny_call_builtin ft.init.plain PySem.F.entry_object_init (ft.init.check _ _ _ _ _ _ _ _ hT (zs_ao obj a b) (zs_init obj a b prog w A.in1 _ s₁ (show (fun (_ : Around) (R : Except Value Flow → Shared → Prop) (s : Shared) => s.TypeIs obj "zip" ∧ R (.ok (.ret .none)) s) A.in1 (wants (fun r s₂ => r = .none ∧ Q obj s₂) E) s₁ from ⟨hT, rfl, hq⟩)))) fun r₂ s₂ hr₂ => ?_
      cases r₂ with
      | error e => exact hr₂
      | ok fl₂ =>
        cases fl₂ with
        | ret r =>
          obtain ⟨rfl, hq⟩ := hr₂
          repeat (any_goals (first | assumption | wp_step))
        | _ => exact hr₂.elim
    | _ => exact hr.elim
end
abbrev zq1 (h : Heap) (a : Addr) : Heap := h.push { cls := .type "tuple_iterator", data := .fields #[.ref a, .int 0 0] }
abbrev zq2 (h : Heap) (a b : Addr) : Heap := (zq1 h a).push { cls := .type "list_iterator", data := .fields #[.ref b, .int 0 0] }
abbrev zq3 (h : Heap) (a b : Addr) : Heap := (zq2 h a b).push { cls := .type "tuple", data := .seq #[.ref h.objs.size, .ref (zq1 h a).objs.size] }
abbrev zq4 (h : Heap) (a b : Addr) : Heap := (zq3 h a b).push { cls := .type "tuple", data := .seq #[.none, .none] }
abbrev zq5 (h : Heap) (a b : Addr) : Heap := (zq4 h a b).push { cls := .type "zip", data := .fields #[.none, .bool false, .bool true, .ref (zq2 h a b).objs.size, .ref (zq3 h a b).objs.size] }
theorem zs_new (a b : Addr) (xs ys : Array Value) :
    Meets (Builtin.«zip.__new__» ⟨[.type "zip", .ref a, .ref b], [("strict", .bool true)]⟩) (fun _ R s => s.heap.IsTuple a xs ∧ s.heap.IsList b ys ∧
      R (.ok (.ret (.ref (zq4 s.heap a b).objs.size))) { s with heap := zq5 s.heap a b }) :=
  .of_wp fun prog w A R s h => by
    obtain ⟨hp, g, d, tk, os⟩ := s; obtain ⟨ha, hb, h⟩ := h; have hsub := sub_zip
    have hA : Heap.IsTuple (Shared.heap ⟨hp, g, d, tk, os⟩) a xs := ha; have hB : Heap.IsList (Shared.heap ⟨hp.push { cls := .type "tuple_iterator", data := .fields #[.ref a, .int 0 0] }, g, d, tk, os⟩) b ys := Heap.IsList.push hb _
    wp_walk using wpAny_pyIter_tuple hA, wpAny_pyIter_list hB
    exact ⟨_, rfl, h⟩
end My

namespace My
open PySem PySem.Spec PyProof.Rows L2 Pre
open Sem (wp)
section
variable {prog : Program} {w : World} {A : Around} {E : Value → Shared → Prop} {s : Shared}
theorem zs_made {a b : Addr} {xs ys : Array Value} {Q : Value → Shared → Prop} (ha : s.heap.IsTuple a xs) (hb : s.heap.IsList b ys)
    (go : ∀ g', SZip g' (s.heap.objs.size + 4) (s.heap.objs.size + 2) (s.heap.objs.size + 3) .none → IsTupOf2 g' (s.heap.objs.size + 2) (.ref s.heap.objs.size) (.ref (s.heap.objs.size + 1)) → IsTupOf2 g' (s.heap.objs.size + 3) .none .none →
      g'.IsTupleIter s.heap.objs.size a 0 → g'.IsListIter (s.heap.objs.size + 1) b 0 → (∀ c o, s.heap.get? c = some o → g'.get? c = some o) → Q (.ref (s.heap.objs.size + 4)) { s with heap := g' }) :
    wpAny (model prog w) A (call (.type "zip") [.ref a, .ref b] [("strict", .bool true)]) Q E s := by
  refine zs_call (zs_new a b xs ys) ⟨ha, hb, ?_⟩
  have n1 : (zq1 s.heap a).objs.size = s.heap.objs.size + 1 := Heap.size_push ..
  have n2 : (zq2 s.heap a b).objs.size = s.heap.objs.size + 2 := by rw [Heap.size_push, n1]
  have n3 : (zq3 s.heap a b).objs.size = s.heap.objs.size + 3 := by rw [Heap.size_push, n2]
  have n4 : (zq4 s.heap a b).objs.size = s.heap.objs.size + 4 := by rw [Heap.size_push, n3]
  have p : ∀ {h : Heap} {o o' : Obj} {c : Addr}, h.get? c = some o → (h.push o').get? c = some o := fun e => Heap.get?_push_of_some _ e
  have q5 : (zq5 s.heap a b).get? (zq4 s.heap a b).objs.size = some _ := Heap.get?_push_size _ rfl
  have q4 : (zq5 s.heap a b).get? (zq3 s.heap a b).objs.size = some _ := p (Heap.get?_push_size _ rfl)
  have q3 : (zq5 s.heap a b).get? (zq2 s.heap a b).objs.size = some _ := p (p (Heap.get?_push_size _ rfl))
  have q2 : (zq5 s.heap a b).get? (zq1 s.heap a).objs.size = some _ := p (p (p (Heap.get?_push_size _ rfl)))
  have q1 : (zq5 s.heap a b).get? s.heap.objs.size = some _ := p (p (p (p (Heap.get?_push_size _ rfl))))
  show _ ∧ _; rw [n2, n3, n4] at q5; rw [n1, n2] at q3; rw [n3] at q4; rw [n1] at q2; rw [n4]
  exact ⟨⟨_, q5, rfl⟩, go _ q5 q3 q4 ⟨_, q1, rfl, rfl⟩ ⟨_, q2, rfl, rfl⟩ fun c o x => p (p (p (p (p x))))⟩
end
/-- the tuple at a and the list at b, of one length, side by side -/
def ItzS (K : PySem.W.Frag) (a b : Addr) : It :=
  ⟨fun i H => ∃ (xs ys : List V), SqT K H a xs ∧ SqL K H b ys ∧ xs.length = ys.length ∧ i < xs.length,
    fun i H v H' => ∃ T x y, v = .ref T ∧ H T = none ∧ H' = upd H T (.tup [x, y]) ∧ (∀ xs, SqT K H a xs → xs[i]? = some x) ∧ ∀ ys, SqL K H b ys → ys[i]? = some y,
    fun i H => ∃ xs ys : List V, SqT K H a xs ∧ SqL K H b ys ∧ xs.length = i ∧ ys.length = i⟩
theorem turn_zs {P : Program} {w : World} {K : PySem.W.Frag} {elts : List Expr} {kk : Nat} {tpos : Pos} {a b z TI TO i1 i2 : Addr} (D : ZipApart z TI TO i1 i2 a b) :
    Turn P w K (.Tuple elts kk tpos) (ItzS K a b) [z, TI, TO, i1, i2] z (fun i h => SZip h z TI TO .none ∧ IsTupOf2 h TI (.ref i1) (.ref i2) ∧ (∃ x y, IsTupOf2 h TO x y) ∧ h.IsTupleIter i1 a i ∧ h.IsListIter i2 b i) := by
  have Sp : ZipSep2 z TI TO i1 i2 [i1, a] [i2, b] := ⟨D.TIz, D.TOz, D.TITO, D.TIi1, by simp, by simp [D.i1z.symm, D.l1z.symm], by simp [D.TOi1, D.l1TO.symm], D.TIi2, by simp, by simp [D.i2z.symm, D.l2z.symm], by simp [D.TOi2, D.l2TO.symm], by simp [D.i12, D.l2i1.symm], by simp [D.i12.symm, D.l1i2.symm]⟩
  refine ⟨by simp, fun i h st c hc => ?_, fun i h h' st k => ?_, ?_, ?_, fun A i s Q E st h => zs_iter st.1 h⟩
  · obtain ⟨hz, hTI, ⟨x, y, hTO⟩, ⟨o1, e1, _, d1⟩, ⟨o2, e2, _, d2⟩⟩ := st
    have e' : c = z ∨ c = TI ∨ c = TO ∨ c = i1 ∨ c = i2 := by simpa using hc
    rcases e' with q | q | q | q | q <;> rw [q]
    · exact ⟨_, hz, fun v q => nomatch q⟩
    · exact ⟨_, hTI, fun v q => nomatch q⟩
    · exact ⟨_, hTO, fun v q => nomatch q⟩
    · exact ⟨o1, e1, fun v q => by rw [d1] at q; cases q⟩
    · exact ⟨o2, e2, fun v q => by rw [d2] at q; cases q⟩
  · obtain ⟨hz, hTI, ⟨x, y, hTO⟩, h1, h2⟩ := st
    have kz := k z (by simp); have kI := k TI (by simp); have kO := k TO (by simp)
    exact ⟨kz _ hz, kI _ hTI, ⟨x, y, kO _ hTO⟩, h1.at fun o q => k i1 (by simp) o q, h2.at fun o q => k i2 (by simp) o q⟩
  · intro X hP hw hK hc i pins s σ H E I hf st hg
    subst hP; subst hw; subst hK
    obtain ⟨hz, hTI, ⟨x0, y0, hTO⟩, h1, h2⟩ := st; obtain ⟨xs, ys, hqx, hqy, hl, hi⟩ := hg
    obtain ⟨its, rv, p, _⟩ := I.tuple hqx; obtain ⟨its2, rv2, p2, _⟩ := I.list hqy
    have l1 := rv.length; have l2 := rv2.length
    have hzl : z < s.heap.objs.size := Heap.lt_size hz
    have hh : X.A.handled = none := I.ok.hd hc
    have Da := Draws.tuple (prog := X.prog) (w := X.w) (A := X.A.in1) (show X.A.in1.handled = none from hh) i1 a D.l1i1 its.toArray
    have Db0 := Draws.list (prog := X.prog) (w := X.w) (A := X.A.in1) (show X.A.in1.handled = none from hh) i2 b D.l2i2 its2.toArray
    have esz : its2.toArray.size = its.toArray.size := by simp; omega
    have Db : Draws X.prog X.w X.A.in1 i2 [i2, b] its.toArray.size (fun j v => its2.toArray[j]? = some v) (fun j h => h.IsListIter i2 b j ∧ h.IsList b its2.toArray) := by rw [← esz]; exact Db0
    have hin : i < its.toArray.size := by simp; omega
    refine zs_pyNext (s := s) hh Sp Da Db hz hTI hTO ⟨h1, p⟩ ⟨h2, p2.isList⟩ (Nat.le_of_lt hin) (fun _ u u2 h' tk px py z' TO' sa' sb' hT hsz hk => ?_) (fun e => absurd e (Nat.ne_of_lt hin))
    have hu : its[i]? = some u := by simpa using px
    have hu2 : its2[i]? = some u2 := by simpa using py
    obtain ⟨x, hx⟩ : ∃ x, xs[i]? = some x := ⟨_, List.getElem?_eq_getElem hi⟩
    obtain ⟨y, hy⟩ : ∃ y, ys[i]? = some y := ⟨_, List.getElem?_eq_getElem (hl ▸ hi)⟩
    obtain ⟨u', hu', ru⟩ := rv.get hx; obtain ⟨u2', hu2', ru2⟩ := rv2.get hy
    rw [hu] at hu'; cases hu'; rw [hu2] at hu2'; cases hu2'
    refine ⟨_, rfl, zs_go (s := { s with heap := h', toks := tk }) z' fun h'' z'' sb => ?_⟩
    have hT2 : h''.get? s.heap.objs.size = some { cls := .type "tuple", data := .seq #[u, u2] } := (sb.2 _ (Nat.ne_of_gt hzl)).trans hT
    have new : ObjOk X.prog X.w (upd H s.heap.objs.size (.tup [x, y])) h'' s.heap.objs.size (.tup [x, y]) := ⟨by show 2 ≤ sizeLine; decide, [u, u2], .cons ru (.cons ru2 .nil), ⟨_, hT2, rfl, _, rfl⟩⟩
    have I1 : Inv X pins σ (upd H s.heap.objs.size (.tup [x, y])) { s with heap := h'', toks := tk } :=
      I.turnedNew (t' := tk) (ch := [z, TI, TO, i1, i2]) (fun c o hb q => (sb.2 c (fun q' => hb (by simp [q']))).trans (hk c o (fun q' => hb (by simp [q'])) (fun q' => hb (by simp [q'])) (fun q' => hb (by simp [q'])) (fun q' => hb (by simp [q'])) q)) hf (Nat.le_refl _) new
    refine ⟨.ref s.heap.objs.size, _, I1, rfl, ⟨_, x, y, rfl, I.hok.fresh (Nat.le_refl _), rfl, fun l hl => by rw [I.tuple_inj hl hqx]; exact hx, fun l hl => by rw [I.list_inj hl hqy]; exact hy⟩, ⟨z'', (sb.2 _ D.TIz).trans (hk _ _ D.TIz D.TITO D.TIi1 D.TIi2 hTI), ⟨u, u2, (sb.2 _ D.TOz).trans TO'⟩, sa'.1.at fun o q => (sb.2 _ D.i1z).trans q, sb'.1.at fun o q => (sb.2 _ D.i2z).trans q⟩, fun c hcm => ?_⟩
    have hlt : c < s.heap.objs.size := by
      have e' : c = z ∨ c = TI ∨ c = TO ∨ c = i1 ∨ c = i2 := by simpa using hcm
      rcases e' with q | q | q | q | q <;> rw [q]
      · exact hzl
      · exact Heap.lt_size hTI
      · exact Heap.lt_size hTO
      · obtain ⟨_, e1, _⟩ := h1; exact Heap.lt_size e1
      · obtain ⟨_, e2, _⟩ := h2; exact Heap.lt_size e2
    rw [upd_ne (Nat.ne_of_lt hlt)]; exact (hf c hcm).1
  · intro X hP hw hK hc i pins s σ H E I hf st hg
    subst hP; subst hw; subst hK
    obtain ⟨hz, hTI, ⟨x0, y0, hTO⟩, h1, h2⟩ := st; obtain ⟨xs, ys, hqx, hqy, hl, hl2⟩ := hg
    obtain ⟨its, rv, p, _⟩ := I.tuple hqx; obtain ⟨its2, rv2, p2, _⟩ := I.list hqy
    have l1 := rv.length; have l2 := rv2.length
    have hh : X.A.handled = none := I.ok.hd hc
    have Da := Draws.tuple (prog := X.prog) (w := X.w) (A := X.A.in1) (show X.A.in1.handled = none from hh) i1 a D.l1i1 its.toArray
    have Db0 := Draws.list (prog := X.prog) (w := X.w) (A := X.A.in1) (show X.A.in1.handled = none from hh) i2 b D.l2i2 its2.toArray
    have esz : its2.toArray.size = its.toArray.size := by simp; omega
    have Db : Draws X.prog X.w X.A.in1 i2 [i2, b] its.toArray.size (fun j v => its2.toArray[j]? = some v) (fun j h => h.IsListIter i2 b j ∧ h.IsList b its2.toArray) := by rw [← esz]; exact Db0
    have hin : i = its.toArray.size := by simp; omega
    refine zs_pyNext (s := s) hh Sp Da Db hz hTI hTO ⟨h1, p⟩ ⟨h2, p2.isList⟩ (Nat.le_of_eq hin) (fun lt => absurd hin (Nat.ne_of_lt lt)) (fun _ h' tk hk => ⟨rfl, I.turnedL (t' := tk) (ch := [z, TI, TO, i1, i2]) (fun c o hb q => hk c o (fun q' => hb (by simp [q'])) (fun q' => hb (by simp [q'])) (fun q' => hb (by simp [q'])) (fun q' => hb (by simp [q'])) q) hf⟩)
section
variable {M : Model} {A : Around} {E : Value → Shared → Prop} {s : Shared} {env : Env}
theorem tykw {pos : Pos} {T : String} {e : Expr} {rest : List Expr} {kws : List Keyword} {Q : Value → Shared → Prop}
    (h : wpAny M A (spliced (backTo pos (starEach (e :: rest) env))) (fun vs s1 => wpAny M A (evalAll ((backToKw pos (keywordEach kws env)).map (·.2))) (fun ws s2 => wpAny M A (call (.type T) vs (((backToKw pos (keywordEach kws env)).filterMap (·.1)).zip ws)) Q E s2) E s1) E s)
    (he : backTo pos (starEach (e :: rest) env) = (false, eval e env) :: backTo pos (starEach rest env) := by rfl) (hp : (backTo pos (starEach (e :: rest) env)).any (·.1) = false := by rfl)
    (ha : (backToKw pos (keywordEach kws env)).all (·.1.isSome) = true := by rfl) (hk : (backToKw pos (keywordEach kws env)).any (·.1.isNone) = false := by rfl) : wpAny M A (callWith pos (.type T) [] (backTo pos (starEach (e :: rest) env)) (backToKw pos (keywordEach kws env))) Q E s := by
  unfold callWith
  refine wpAny_bind (wpAny_holding (wpAny_mono (Q := fun a s1 => wpAny M A (call (.type T) ([] ++ a.pos) a.kw) Q E s1) ?_ (fun a s1 h1 => wpAny_bind (wpAny_standAt ?_)) fun _ _ z => z))
  · rw [he] at h ⊢; exact evalArgs_kwB ha h
  · simp only [hp, hk, Bool.or_false]; refine wpAny_bind (wpAny_pure ?_)
    exact wpAny_bind (wpAny_mono h1 (fun r s2 hr => wpAny_bind (wpAny_holding (wpAny_point (wpAny_pure hr)))) fun _ _ z => z)
end
def iZipS (K : PySem.W.Frag) (ta tk : TA) : TI := fun σ H R => ta σ H fun vs H1 => tk σ H1 fun zs H2 => zs = [.bl true] ∧ ∃ a b xs ys, vs = [.ref a, .ref b] ∧ SqT K H2 a xs ∧ SqL K H2 b ys ∧ R (ItzS K a b) H2
theorem pi_zs {X : Cx} {e e2 : Expr} {kws : List Keyword} {ta tk : TA} {p pos tpos : Pos} {elts : List Expr} {kk : Nat} (hg : Gl X "zip") (hm : X.mg "zip" = none) (ha : PA X [e, e2] ta) (hk : PK X kws tk)
    (he : backTo pos (starEach [e, e2] X.env) = (false, eval e X.env) :: backTo pos (starEach [e2] X.env) := by rfl) (hp : (backTo pos (starEach [e, e2] X.env)).any (·.1) = false := by rfl)
    (hal : (backToKw pos (keywordEach kws X.env)).all (·.1.isSome) = true := by rfl) (hkn : (backToKw pos (keywordEach kws X.env)).any (·.1.isNone) = false := by rfl) (hks : (backToKw pos (keywordEach kws X.env)).filterMap (·.1) = [("strict" : Str)] := by rfl) :
    PI X (.Tuple elts kk tpos) (.Call (.Name "zip" p) [e, e2] kws pos) (iZipS X.K ta tk) := by
  refine ⟨fun pins s σ H R I h => wpAny_Call_Name_kw (ld_blt I hg hm PyProof.Rows.boot_zip (tykw (thn (ha.run pos pins s σ H _ I h) fun us s1 ⟨vs, H1, I1, r1, q1⟩ => thn (hk.run pos pins s1 σ H1 _ I1 q1) fun ws s2 ⟨zs, H2, I2, r2, q2⟩ => ?_) he hp hal hkn))⟩
  rw [hks]; obtain ⟨ez, a, b, xs, ys, ex, hqx, hqy, q⟩ := q2
  subst ez; subst ex
  cases r2 with
  | cons rb rr => cases rr; cases (show _ = Value.bool true from rb); cases r1 with
    | cons r rr => cases rr with
      | cons r' rr =>
        cases rr; cases r; cases r'
        obtain ⟨its, rv, p1, _⟩ := I2.tuple hqx; obtain ⟨its2, rv2, p2, _⟩ := I2.list hqy
        refine zs_made p1 p2.isList fun g' hz hTI hTO h1 h2 hk' => zs_iter hz ?_
        have I3 : Inv X pins σ H2 { s2 with heap := g' } := I2.kept (t' := s2.toks) hk'
        obtain ⟨o1, ho1, _⟩ := id p1
        refine ⟨s2.heap.objs.size + 4, [s2.heap.objs.size + 4, s2.heap.objs.size + 2, s2.heap.objs.size + 3, s2.heap.objs.size, s2.heap.objs.size + 1], _, _, H2, rfl, I3, turn_zs (PySem.W.ktu_apart s2.heap.objs.size a b (Heap.lt_size ho1) p2.lt), ⟨hz, hTI, ⟨_, _, hTO⟩, h1, h2⟩, fun c hcm => ?_, q⟩
        have hle : s2.heap.objs.size ≤ c := by
          have e' : c = s2.heap.objs.size + 4 ∨ c = s2.heap.objs.size + 2 ∨ c = s2.heap.objs.size + 3 ∨ c = s2.heap.objs.size ∨ c = s2.heap.objs.size + 1 := by simpa using hcm
          rcases e' with z | z | z | z | z <;> rw [z] <;> first | exact Nat.le_add_right _ _ | exact Nat.le_refl _
        exact I2.fpOk hle (I2.hok.fresh hle)
theorem walk_zs {K : PySem.W.Frag} {a b : Addr} {xs ys : List V} (hl : xs.length = ys.length) : Walk (ItzS K a b) xs.length (fun H => SqT K H a xs ∧ SqL K H b ys) (YPair (fun i => xs[i]?) (fun i => ys[i]?)) :=
  ⟨fun i _ hi q => ⟨xs, ys, q.1, q.2, hl, hi⟩, fun _ q => ⟨xs, ys, q.1, q.2, rfl, hl.symm⟩, fun i H v H' _ q ⟨T, x, z, h1, h2, h3, h4, h5⟩ => ⟨T, x, z, h1, h2, h3, h4 xs q.1, h5 ys q.2⟩⟩
theorem k_piZS {X : Cx} (K : PySem.W.Frag) (h : X.K = K) {e e2 : Expr} {kws : List Keyword} {ta tk : TA} {p pos tpos : Pos} {elts : List Expr} {kk : Nat} (hg : Gl X "zip") (hm : X.mg "zip" = none) (ha : PA X [e, e2] ta) (hk : PK X kws tk)
    (he : backTo pos (starEach [e, e2] X.env) = (false, eval e X.env) :: backTo pos (starEach [e2] X.env) := by rfl) (hp : (backTo pos (starEach [e, e2] X.env)).any (·.1) = false := by rfl)
    (hal : (backToKw pos (keywordEach kws X.env)).all (·.1.isSome) = true := by rfl) (hkn : (backToKw pos (keywordEach kws X.env)).any (·.1.isNone) = false := by rfl) (hks : (backToKw pos (keywordEach kws X.env)).filterMap (·.1) = [("strict" : Str)] := by rfl) :
    PI X (.Tuple elts kk tpos) (.Call (.Name "zip" p) [e, e2] kws pos) (iZipS K ta tk) := by subst h; exact pi_zs hg hm ha hk he hp hal hkn hks
end My

namespace My
open PySem PySem.Spec PyProof.Rows L2 Pre
open Sem (wp)
/-! ### zip(xs, ys, strict=True) of two lists -/
abbrev zr1 (h : Heap) (a : Addr) : Heap := h.push { cls := .type "list_iterator", data := .fields #[.ref a, .int 0 0] }
abbrev zr2 (h : Heap) (a b : Addr) : Heap := (zr1 h a).push { cls := .type "list_iterator", data := .fields #[.ref b, .int 0 0] }
abbrev zr3 (h : Heap) (a b : Addr) : Heap := (zr2 h a b).push { cls := .type "tuple", data := .seq #[.ref h.objs.size, .ref (zr1 h a).objs.size] }
abbrev zr4 (h : Heap) (a b : Addr) : Heap := (zr3 h a b).push { cls := .type "tuple", data := .seq #[.none, .none] }
abbrev zr5 (h : Heap) (a b : Addr) : Heap := (zr4 h a b).push { cls := .type "zip", data := .fields #[.none, .bool false, .bool true, .ref (zr2 h a b).objs.size, .ref (zr3 h a b).objs.size] }
theorem zl_new (a b : Addr) (xs ys : Array Value) :
    Meets (Builtin.«zip.__new__» ⟨[.type "zip", .ref a, .ref b], [("strict", .bool true)]⟩) (fun _ R s => s.heap.IsList a xs ∧ s.heap.IsList b ys ∧
      R (.ok (.ret (.ref (zr4 s.heap a b).objs.size))) { s with heap := zr5 s.heap a b }) :=
  .of_wp fun prog w A R s h => by
    obtain ⟨hp, g, d, tk, os⟩ := s; obtain ⟨ha, hb, h⟩ := h; have hsub := sub_zip
    have hA : Heap.IsList (Shared.heap ⟨hp, g, d, tk, os⟩) a xs := ha; have hB : Heap.IsList (Shared.heap ⟨hp.push { cls := .type "list_iterator", data := .fields #[.ref a, .int 0 0] }, g, d, tk, os⟩) b ys := Heap.IsList.push hb _
    wp_walk using wpAny_pyIter_list hA, wpAny_pyIter_list hB
    exact ⟨_, rfl, h⟩
section
variable {prog : Program} {w : World} {A : Around} {E : Value → Shared → Prop} {s : Shared}
theorem zl_made {a b : Addr} {xs ys : Array Value} {Q : Value → Shared → Prop} (ha : s.heap.IsList a xs) (hb : s.heap.IsList b ys)
    (go : ∀ g', SZip g' (s.heap.objs.size + 4) (s.heap.objs.size + 2) (s.heap.objs.size + 3) .none → IsTupOf2 g' (s.heap.objs.size + 2) (.ref s.heap.objs.size) (.ref (s.heap.objs.size + 1)) → IsTupOf2 g' (s.heap.objs.size + 3) .none .none →
      g'.IsListIter s.heap.objs.size a 0 → g'.IsListIter (s.heap.objs.size + 1) b 0 → (∀ c o, s.heap.get? c = some o → g'.get? c = some o) → Q (.ref (s.heap.objs.size + 4)) { s with heap := g' }) :
    wpAny (model prog w) A (call (.type "zip") [.ref a, .ref b] [("strict", .bool true)]) Q E s := by
  refine zs_call (zl_new a b xs ys) ⟨ha, hb, ?_⟩
  have n1 : (zr1 s.heap a).objs.size = s.heap.objs.size + 1 := Heap.size_push ..
  have n2 : (zr2 s.heap a b).objs.size = s.heap.objs.size + 2 := by rw [Heap.size_push, n1]
  have n3 : (zr3 s.heap a b).objs.size = s.heap.objs.size + 3 := by rw [Heap.size_push, n2]
  have n4 : (zr4 s.heap a b).objs.size = s.heap.objs.size + 4 := by rw [Heap.size_push, n3]
  have p : ∀ {h : Heap} {o o' : Obj} {c : Addr}, h.get? c = some o → (h.push o').get? c = some o := fun e => Heap.get?_push_of_some _ e
  have q5 : (zr5 s.heap a b).get? (zr4 s.heap a b).objs.size = some _ := Heap.get?_push_size _ rfl
  have q4 : (zr5 s.heap a b).get? (zr3 s.heap a b).objs.size = some _ := p (Heap.get?_push_size _ rfl)
  have q3 : (zr5 s.heap a b).get? (zr2 s.heap a b).objs.size = some _ := p (p (Heap.get?_push_size _ rfl))
  have q2 : (zr5 s.heap a b).get? (zr1 s.heap a).objs.size = some _ := p (p (p (Heap.get?_push_size _ rfl)))
  have q1 : (zr5 s.heap a b).get? s.heap.objs.size = some _ := p (p (p (p (Heap.get?_push_size _ rfl))))
  show _ ∧ _; rw [n2, n3, n4] at q5; rw [n1, n2] at q3; rw [n3] at q4; rw [n1] at q2; rw [n4]
  exact ⟨⟨_, q5, rfl⟩, go _ q5 q3 q4 ⟨_, q1, rfl, rfl⟩ ⟨_, q2, rfl, rfl⟩ fun c o x => p (p (p (p (p x))))⟩
end
/-- the lists at a and b, of one length, side by side -/
def ItzL (K : PySem.W.Frag) (a b : Addr) : It :=
  ⟨fun i H => ∃ (xs ys : List V), SqL K H a xs ∧ SqL K H b ys ∧ xs.length = ys.length ∧ i < xs.length,
    fun i H v H' => ∃ T x y, v = .ref T ∧ H T = none ∧ H' = upd H T (.tup [x, y]) ∧ (∀ xs, SqL K H a xs → xs[i]? = some x) ∧ ∀ ys, SqL K H b ys → ys[i]? = some y,
    fun i H => ∃ xs ys : List V, SqL K H a xs ∧ SqL K H b ys ∧ xs.length = i ∧ ys.length = i⟩
theorem turn_zl {P : Program} {w : World} {K : PySem.W.Frag} {elts : List Expr} {kk : Nat} {tpos : Pos} {a b z TI TO i1 i2 : Addr} (D : ZipApart z TI TO i1 i2 a b) :
    Turn P w K (.Tuple elts kk tpos) (ItzL K a b) [z, TI, TO, i1, i2] z (fun i h => SZip h z TI TO .none ∧ IsTupOf2 h TI (.ref i1) (.ref i2) ∧ (∃ x y, IsTupOf2 h TO x y) ∧ h.IsListIter i1 a i ∧ h.IsListIter i2 b i) := by
  have Sp : ZipSep2 z TI TO i1 i2 [i1, a] [i2, b] := ⟨D.TIz, D.TOz, D.TITO, D.TIi1, by simp, by simp [D.i1z.symm, D.l1z.symm], by simp [D.TOi1, D.l1TO.symm], D.TIi2, by simp, by simp [D.i2z.symm, D.l2z.symm], by simp [D.TOi2, D.l2TO.symm], by simp [D.i12, D.l2i1.symm], by simp [D.i12.symm, D.l1i2.symm]⟩
  refine ⟨by simp, fun i h st c hc => ?_, fun i h h' st k => ?_, ?_, ?_, fun A i s Q E st h => zs_iter st.1 h⟩
  · obtain ⟨hz, hTI, ⟨x, y, hTO⟩, ⟨o1, e1, _, d1⟩, ⟨o2, e2, _, d2⟩⟩ := st
    have e' : c = z ∨ c = TI ∨ c = TO ∨ c = i1 ∨ c = i2 := by simpa using hc
    rcases e' with q | q | q | q | q <;> rw [q]
    · exact ⟨_, hz, fun v q => nomatch q⟩
    · exact ⟨_, hTI, fun v q => nomatch q⟩
    · exact ⟨_, hTO, fun v q => nomatch q⟩
    · exact ⟨o1, e1, fun v q => by rw [d1] at q; cases q⟩
    · exact ⟨o2, e2, fun v q => by rw [d2] at q; cases q⟩
  · obtain ⟨hz, hTI, ⟨x, y, hTO⟩, h1, h2⟩ := st
    have kz := k z (by simp); have kI := k TI (by simp); have kO := k TO (by simp)
    exact ⟨kz _ hz, kI _ hTI, ⟨x, y, kO _ hTO⟩, h1.at fun o q => k i1 (by simp) o q, h2.at fun o q => k i2 (by simp) o q⟩
  · intro X hP hw hK hc i pins s σ H E I hf st hg
    subst hP; subst hw; subst hK
    obtain ⟨hz, hTI, ⟨x0, y0, hTO⟩, h1, h2⟩ := st; obtain ⟨xs, ys, hqx, hqy, hl, hi⟩ := hg
    obtain ⟨its, rv, p, _⟩ := I.list hqx; obtain ⟨its2, rv2, p2, _⟩ := I.list hqy
    have l1 := rv.length; have l2 := rv2.length
    have hzl : z < s.heap.objs.size := Heap.lt_size hz
    have hh : X.A.handled = none := I.ok.hd hc
    have Da := Draws.list (prog := X.prog) (w := X.w) (A := X.A.in1) (show X.A.in1.handled = none from hh) i1 a D.l1i1 its.toArray
    have Db0 := Draws.list (prog := X.prog) (w := X.w) (A := X.A.in1) (show X.A.in1.handled = none from hh) i2 b D.l2i2 its2.toArray
    have esz : its2.toArray.size = its.toArray.size := by simp; omega
    have Db : Draws X.prog X.w X.A.in1 i2 [i2, b] its.toArray.size (fun j v => its2.toArray[j]? = some v) (fun j h => h.IsListIter i2 b j ∧ h.IsList b its2.toArray) := by rw [← esz]; exact Db0
    have hin : i < its.toArray.size := by simp; omega
    refine zs_pyNext (s := s) hh Sp Da Db hz hTI hTO ⟨h1, p.isList⟩ ⟨h2, p2.isList⟩ (Nat.le_of_lt hin) (fun _ u u2 h' tk px py z' TO' sa' sb' hT hsz hk => ?_) (fun e => absurd e (Nat.ne_of_lt hin))
    have hu : its[i]? = some u := by simpa using px
    have hu2 : its2[i]? = some u2 := by simpa using py
    obtain ⟨x, hx⟩ : ∃ x, xs[i]? = some x := ⟨_, List.getElem?_eq_getElem hi⟩
    obtain ⟨y, hy⟩ : ∃ y, ys[i]? = some y := ⟨_, List.getElem?_eq_getElem (hl ▸ hi)⟩
    obtain ⟨u', hu', ru⟩ := rv.get hx; obtain ⟨u2', hu2', ru2⟩ := rv2.get hy
    rw [hu] at hu'; cases hu'; rw [hu2] at hu2'; cases hu2'
    refine ⟨_, rfl, zs_go (s := { s with heap := h', toks := tk }) z' fun h'' z'' sb => ?_⟩
    have hT2 : h''.get? s.heap.objs.size = some { cls := .type "tuple", data := .seq #[u, u2] } := (sb.2 _ (Nat.ne_of_gt hzl)).trans hT
    have new : ObjOk X.prog X.w (upd H s.heap.objs.size (.tup [x, y])) h'' s.heap.objs.size (.tup [x, y]) := ⟨by show 2 ≤ sizeLine; decide, [u, u2], .cons ru (.cons ru2 .nil), ⟨_, hT2, rfl, _, rfl⟩⟩
    have I1 : Inv X pins σ (upd H s.heap.objs.size (.tup [x, y])) { s with heap := h'', toks := tk } :=
      I.turnedNew (t' := tk) (ch := [z, TI, TO, i1, i2]) (fun c o hb q => (sb.2 c (fun q' => hb (by simp [q']))).trans (hk c o (fun q' => hb (by simp [q'])) (fun q' => hb (by simp [q'])) (fun q' => hb (by simp [q'])) (fun q' => hb (by simp [q'])) q)) hf (Nat.le_refl _) new
    refine ⟨.ref s.heap.objs.size, _, I1, rfl, ⟨_, x, y, rfl, I.hok.fresh (Nat.le_refl _), rfl, fun l hl => by rw [I.list_inj hl hqx]; exact hx, fun l hl => by rw [I.list_inj hl hqy]; exact hy⟩, ⟨z'', (sb.2 _ D.TIz).trans (hk _ _ D.TIz D.TITO D.TIi1 D.TIi2 hTI), ⟨u, u2, (sb.2 _ D.TOz).trans TO'⟩, sa'.1.at fun o q => (sb.2 _ D.i1z).trans q, sb'.1.at fun o q => (sb.2 _ D.i2z).trans q⟩, fun c hcm => ?_⟩
    have hlt : c < s.heap.objs.size := by
      have e' : c = z ∨ c = TI ∨ c = TO ∨ c = i1 ∨ c = i2 := by simpa using hcm
      rcases e' with q | q | q | q | q <;> rw [q]
      · exact hzl
      · exact Heap.lt_size hTI
      · exact Heap.lt_size hTO
      · obtain ⟨_, e1, _⟩ := h1; exact Heap.lt_size e1
      · obtain ⟨_, e2, _⟩ := h2; exact Heap.lt_size e2
    rw [upd_ne (Nat.ne_of_lt hlt)]; exact (hf c hcm).1
  · intro X hP hw hK hc i pins s σ H E I hf st hg
    subst hP; subst hw; subst hK
    obtain ⟨hz, hTI, ⟨x0, y0, hTO⟩, h1, h2⟩ := st; obtain ⟨xs, ys, hqx, hqy, hl, hl2⟩ := hg
    obtain ⟨its, rv, p, _⟩ := I.list hqx; obtain ⟨its2, rv2, p2, _⟩ := I.list hqy
    have l1 := rv.length; have l2 := rv2.length
    have hh : X.A.handled = none := I.ok.hd hc
    have Da := Draws.list (prog := X.prog) (w := X.w) (A := X.A.in1) (show X.A.in1.handled = none from hh) i1 a D.l1i1 its.toArray
    have Db0 := Draws.list (prog := X.prog) (w := X.w) (A := X.A.in1) (show X.A.in1.handled = none from hh) i2 b D.l2i2 its2.toArray
    have esz : its2.toArray.size = its.toArray.size := by simp; omega
    have Db : Draws X.prog X.w X.A.in1 i2 [i2, b] its.toArray.size (fun j v => its2.toArray[j]? = some v) (fun j h => h.IsListIter i2 b j ∧ h.IsList b its2.toArray) := by rw [← esz]; exact Db0
    have hin : i = its.toArray.size := by simp; omega
    refine zs_pyNext (s := s) hh Sp Da Db hz hTI hTO ⟨h1, p.isList⟩ ⟨h2, p2.isList⟩ (Nat.le_of_eq hin) (fun lt => absurd hin (Nat.ne_of_lt lt)) (fun _ h' tk hk => ⟨rfl, I.turnedL (t' := tk) (ch := [z, TI, TO, i1, i2]) (fun c o hb q => hk c o (fun q' => hb (by simp [q'])) (fun q' => hb (by simp [q'])) (fun q' => hb (by simp [q'])) (fun q' => hb (by simp [q'])) q) hf⟩)
def iZipL (K : PySem.W.Frag) (ta tk : TA) : TI := fun σ H R => ta σ H fun vs H1 => tk σ H1 fun zs H2 => zs = [.bl true] ∧ ∃ a b xs ys, vs = [.ref a, .ref b] ∧ SqL K H2 a xs ∧ SqL K H2 b ys ∧ R (ItzL K a b) H2
theorem pi_zl {X : Cx} {e e2 : Expr} {kws : List Keyword} {ta tk : TA} {p pos tpos : Pos} {elts : List Expr} {kk : Nat} (hg : Gl X "zip") (hm : X.mg "zip" = none) (ha : PA X [e, e2] ta) (hk : PK X kws tk)
    (he : backTo pos (starEach [e, e2] X.env) = (false, eval e X.env) :: backTo pos (starEach [e2] X.env) := by rfl) (hp : (backTo pos (starEach [e, e2] X.env)).any (·.1) = false := by rfl)
    (hal : (backToKw pos (keywordEach kws X.env)).all (·.1.isSome) = true := by rfl) (hkn : (backToKw pos (keywordEach kws X.env)).any (·.1.isNone) = false := by rfl) (hks : (backToKw pos (keywordEach kws X.env)).filterMap (·.1) = [("strict" : Str)] := by rfl) :
    PI X (.Tuple elts kk tpos) (.Call (.Name "zip" p) [e, e2] kws pos) (iZipL X.K ta tk) := by
  refine ⟨fun pins s σ H R I h => wpAny_Call_Name_kw (ld_blt I hg hm PyProof.Rows.boot_zip (tykw (thn (ha.run pos pins s σ H _ I h) fun us s1 ⟨vs, H1, I1, r1, q1⟩ => thn (hk.run pos pins s1 σ H1 _ I1 q1) fun ws s2 ⟨zs, H2, I2, r2, q2⟩ => ?_) he hp hal hkn))⟩
  rw [hks]; obtain ⟨ez, a, b, xs, ys, ex, hqx, hqy, q⟩ := q2
  subst ez; subst ex
  cases r2 with
  | cons rb rr => cases rr; cases (show _ = Value.bool true from rb); cases r1 with
    | cons r rr => cases rr with
      | cons r' rr =>
        cases rr; cases r; cases r'
        obtain ⟨its, rv, p1, _⟩ := I2.list hqx; obtain ⟨its2, rv2, p2, _⟩ := I2.list hqy
        refine zl_made p1.isList p2.isList fun g' hz hTI hTO h1 h2 hk' => zs_iter hz ?_
        have I3 : Inv X pins σ H2 { s2 with heap := g' } := I2.kept (t' := s2.toks) hk'

        refine ⟨s2.heap.objs.size + 4, [s2.heap.objs.size + 4, s2.heap.objs.size + 2, s2.heap.objs.size + 3, s2.heap.objs.size, s2.heap.objs.size + 1], _, _, H2, rfl, I3, turn_zl (PySem.W.ktu_apart s2.heap.objs.size a b p1.lt p2.lt), ⟨hz, hTI, ⟨_, _, hTO⟩, h1, h2⟩, fun c hcm => ?_, q⟩
        have hle : s2.heap.objs.size ≤ c := by
          have e' : c = s2.heap.objs.size + 4 ∨ c = s2.heap.objs.size + 2 ∨ c = s2.heap.objs.size + 3 ∨ c = s2.heap.objs.size ∨ c = s2.heap.objs.size + 1 := by simpa using hcm
          rcases e' with z | z | z | z | z <;> rw [z] <;> first | exact Nat.le_add_right _ _ | exact Nat.le_refl _
        exact I2.fpOk hle (I2.hok.fresh hle)
theorem walk_zl {K : PySem.W.Frag} {a b : Addr} {xs ys : List V} (hl : xs.length = ys.length) : Walk (ItzL K a b) xs.length (fun H => SqL K H a xs ∧ SqL K H b ys) (YPair (fun i => xs[i]?) (fun i => ys[i]?)) :=
  ⟨fun i _ hi q => ⟨xs, ys, q.1, q.2, hl, hi⟩, fun _ q => ⟨xs, ys, q.1, q.2, rfl, hl.symm⟩, fun i H v H' _ q ⟨T, x, z, h1, h2, h3, h4, h5⟩ => ⟨T, x, z, h1, h2, h3, h4 xs q.1, h5 ys q.2⟩⟩
theorem k_piZL {X : Cx} (K : PySem.W.Frag) (h : X.K = K) {e e2 : Expr} {kws : List Keyword} {ta tk : TA} {p pos tpos : Pos} {elts : List Expr} {kk : Nat} (hg : Gl X "zip") (hm : X.mg "zip" = none) (ha : PA X [e, e2] ta) (hk : PK X kws tk)
    (he : backTo pos (starEach [e, e2] X.env) = (false, eval e X.env) :: backTo pos (starEach [e2] X.env) := by rfl) (hp : (backTo pos (starEach [e, e2] X.env)).any (·.1) = false := by rfl)
    (hal : (backToKw pos (keywordEach kws X.env)).all (·.1.isSome) = true := by rfl) (hkn : (backToKw pos (keywordEach kws X.env)).any (·.1.isNone) = false := by rfl) (hks : (backToKw pos (keywordEach kws X.env)).filterMap (·.1) = [("strict" : Str)] := by rfl) :
    PI X (.Tuple elts kk tpos) (.Call (.Name "zip" p) [e, e2] kws pos) (iZipL K ta tk) := by subst h; exact pi_zl hg hm ha hk he hp hal hkn hks
end My

namespace My
open PySem PySem.Spec PyProof.Rows PySem.W L2 Pre
/-- zip, strict, of a tuple or a list with a list -/
def iZipB (K : PySem.W.Frag) (ta tk : TA) : TI := fun σ H R => ta σ H fun vs H1 => tk σ H1 fun zs H2 => zs = [.bl true] ∧ ∃ a b xs ys, vs = [.ref a, .ref b] ∧ SqL K H2 b ys ∧ ((SqT K H2 a xs ∧ R (ItzS K a b) H2) ∨ (SqL K H2 a xs ∧ R (ItzL K a b) H2))
theorem pi_zb {X : Cx} {e e2 : Expr} {kws : List Keyword} {ta tk : TA} {p pos tpos : Pos} {elts : List Expr} {kk : Nat} (hg : Gl X "zip") (hm : X.mg "zip" = none) (ha : PA X [e, e2] ta) (hk : PK X kws tk)
    (he : backTo pos (starEach [e, e2] X.env) = (false, eval e X.env) :: backTo pos (starEach [e2] X.env) := by rfl) (hp : (backTo pos (starEach [e, e2] X.env)).any (·.1) = false := by rfl)
    (hal : (backToKw pos (keywordEach kws X.env)).all (·.1.isSome) = true := by rfl) (hkn : (backToKw pos (keywordEach kws X.env)).any (·.1.isNone) = false := by rfl) (hks : (backToKw pos (keywordEach kws X.env)).filterMap (·.1) = [("strict" : Str)] := by rfl) :
    PI X (.Tuple elts kk tpos) (.Call (.Name "zip" p) [e, e2] kws pos) (iZipB X.K ta tk) := by
  refine ⟨fun pins s σ H R I h => wpAny_Call_Name_kw (ld_blt I hg hm PyProof.Rows.boot_zip (tykw (thn (ha.run pos pins s σ H _ I h) fun us s1 ⟨vs, H1, I1, r1, q1⟩ => thn (hk.run pos pins s1 σ H1 _ I1 q1) fun ws s2 ⟨zs, H2, I2, r2, q2⟩ => ?_) he hp hal hkn))⟩
  rw [hks]; obtain ⟨ez, a, b, xs, ys, ex, hqy, hqq⟩ := q2
  subst ez; subst ex
  cases r2 with
  | cons rb rr => cases rr; cases (show _ = Value.bool true from rb); cases r1 with
    | cons r rr => cases rr with
      | cons r' rr =>
        cases rr; cases r; cases r'
        rcases hqq with ⟨hqx, q⟩ | ⟨hqx, q⟩
        · skip
          obtain ⟨its, rv, p1, _⟩ := I2.tuple hqx; obtain ⟨its2, rv2, p2, _⟩ := I2.list hqy
          refine zs_made p1 p2.isList fun g' hz hTI hTO h1 h2 hk' => zs_iter hz ?_
          have I3 : Inv X pins σ H2 { s2 with heap := g' } := I2.kept (t' := s2.toks) hk'
          obtain ⟨o1, ho1, _⟩ := id p1
          refine ⟨s2.heap.objs.size + 4, [s2.heap.objs.size + 4, s2.heap.objs.size + 2, s2.heap.objs.size + 3, s2.heap.objs.size, s2.heap.objs.size + 1], _, _, H2, rfl, I3, turn_zs (PySem.W.ktu_apart s2.heap.objs.size a b (Heap.lt_size ho1) p2.lt), ⟨hz, hTI, ⟨_, _, hTO⟩, h1, h2⟩, fun c hcm => ?_, q⟩
          have hle : s2.heap.objs.size ≤ c := by
            have e' : c = s2.heap.objs.size + 4 ∨ c = s2.heap.objs.size + 2 ∨ c = s2.heap.objs.size + 3 ∨ c = s2.heap.objs.size ∨ c = s2.heap.objs.size + 1 := by simpa using hcm
            rcases e' with z | z | z | z | z <;> rw [z] <;> first | exact Nat.le_add_right _ _ | exact Nat.le_refl _
          exact I2.fpOk hle (I2.hok.fresh hle)
        · skip
          obtain ⟨its, rv, p1, _⟩ := I2.list hqx; obtain ⟨its2, rv2, p2, _⟩ := I2.list hqy
          refine zl_made p1.isList p2.isList fun g' hz hTI hTO h1 h2 hk' => zs_iter hz ?_
          have I3 : Inv X pins σ H2 { s2 with heap := g' } := I2.kept (t' := s2.toks) hk'

          refine ⟨s2.heap.objs.size + 4, [s2.heap.objs.size + 4, s2.heap.objs.size + 2, s2.heap.objs.size + 3, s2.heap.objs.size, s2.heap.objs.size + 1], _, _, H2, rfl, I3, turn_zl (PySem.W.ktu_apart s2.heap.objs.size a b p1.lt p2.lt), ⟨hz, hTI, ⟨_, _, hTO⟩, h1, h2⟩, fun c hcm => ?_, q⟩
          have hle : s2.heap.objs.size ≤ c := by
            have e' : c = s2.heap.objs.size + 4 ∨ c = s2.heap.objs.size + 2 ∨ c = s2.heap.objs.size + 3 ∨ c = s2.heap.objs.size ∨ c = s2.heap.objs.size + 1 := by simpa using hcm
            rcases e' with z | z | z | z | z <;> rw [z] <;> first | exact Nat.le_add_right _ _ | exact Nat.le_refl _
          exact I2.fpOk hle (I2.hok.fresh hle)
theorem k_piZB {X : Cx} (K : PySem.W.Frag) (h : X.K = K) {e e2 : Expr} {kws : List Keyword} {ta tk : TA} {p pos tpos : Pos} {elts : List Expr} {kk : Nat} (hg : Gl X "zip") (hm : X.mg "zip" = none) (ha : PA X [e, e2] ta) (hk : PK X kws tk)
    (he : backTo pos (starEach [e, e2] X.env) = (false, eval e X.env) :: backTo pos (starEach [e2] X.env) := by rfl) (hp : (backTo pos (starEach [e, e2] X.env)).any (·.1) = false := by rfl)
    (hal : (backToKw pos (keywordEach kws X.env)).all (·.1.isSome) = true := by rfl) (hkn : (backToKw pos (keywordEach kws X.env)).any (·.1.isNone) = false := by rfl) (hks : (backToKw pos (keywordEach kws X.env)).filterMap (·.1) = [("strict" : Str)] := by rfl) :
    PI X (.Tuple elts kk tpos) (.Call (.Name "zip" p) [e, e2] kws pos) (iZipB K ta tk) := by subst h; exact pi_zb hg hm ha hk he hp hal hkn hks
end My

namespace My
open PySem PySem.Spec PyProof.Rows L2 Pre
/-! ### whole numbers, and what is none -/
/-- what is no whole number -/
def BadN (K : PySem.W.Frag) (H : Hp) (v : V) : Prop := (∃ b : Bool, v = .bl b) ∨ ∃ T : String, TyX K H v (.type T) ∧ kitB T "int" = some false
def NumV (K : PySem.W.Frag) (H : Hp) (v : V) (lo : Int) (hi : Option Int) (b : Bool) : Prop := (∃ i : Int, v = .int i ∧ b = decide (lo ≤ i ∧ ∀ j, hi = some j → i ≤ j)) ∨ (BadN K H v ∧ b = false)
theorem BadN.same {K : PySem.W.Frag} {H H' : Hp} {v : V} (s : Same H H') (h : BadN K H v) : BadN K H' v := by
  rcases h with h | ⟨T, ty, e⟩
  · exact .inl h
  · exact .inr ⟨T, ty.same s, e⟩
theorem NumV.same {K : PySem.W.Frag} {H H' : Hp} {v : V} {lo : Int} {hi : Option Int} {b : Bool} (s : Same H H') (h : NumV K H v lo hi b) : NumV K H' v lo hi b := by
  rcases h with h | ⟨h, e⟩
  · exact .inl h
  · exact .inr ⟨h.same s, e⟩
/-- a bound: a number or None -/
def hiV : Option Int → V
  | some j => .int j
  | none => .non
local macro_rules | `(tactic| walk_at "go") => `(tactic| repeat (first | (with_reducible first | refine iteT ?_ | refine iteF ?_ | refine iteNtt ?_ | refine iteNff ?_ | refine iteET (by omega) ?_ | refine iteEF (by omega) ?_ | refine iteENT (by omega) ?_ | refine iteENF (by omega) ?_ | refine iteDT (by omega) ?_ | refine iteDF (by omega) ?_ | refine iteNT (by omega) ?_ | refine iteNF (by omega) ?_) | refine ⟨_, rfl, ?_⟩ | refine ⟨_, _, rfl, rfl, ?_⟩ | refine ⟨_, _, rfl, ?_⟩ | refine ⟨rfl, ?_⟩ | refine .inl ⟨_, rfl, ?_⟩ | refine .inr ⟨_, rfl, ?_⟩))
local macro_rules | `(tactic| walk_at "b") => `(tactic| try dsimp (config := { proj := false, iota := false, eta := false, zeta := false }) only)
section
variable {P : Program} {w : World} {K : PySem.W.Frag} {mg : Str → Option Value} {base : Heap} [pf : Sup.PF P fileS]
def sp_is_whole (K : PySem.W.Frag) : Sp := fun vs H Q _ => ∃ v : V, vs = [v] ∧ ((∃ i : Int, v = .int i ∧ Q (.bl true) H) ∨ (BadN K H v ∧ Q (.bl false) H))
theorem G_is_whole (T : Top K mg) : FnOk P w K mg base CX0 1 T.f_is_whole T.fd_is_whole ["value"] (sp_is_whole K) := by
  refine T.F_is_whole.ok sc_is_whole (fun vs H Q E h => by obtain ⟨v, rfl, _⟩ := h; rfl) (fun cdv A outer s H vs Q E hr h => ?_)
  obtain ⟨v, rfl, h⟩ := h
  refine ⟨_, PSs.nox (pss_one (ps_ret (pe_and (pe_callB (k_isi K rfl) (by rfl) T.n_isinstance (by decide +kernel) (pa_cons (pv 0) (pa_cons (pe_bltn (v := .ty "int") (by rfl) T.n_int (by decide +kernel) rfl) pa_nil))) (pe_one (pe_not (pe_callB (k_isi K rfl) (by rfl) T.n_isinstance (by decide +kernel) (pa_cons (pv 0) (pa_cons (pe_bltn (v := .ty "bool") (by rfl) T.n_bool (by decide +kernel) rfl) pa_nil)))))))), ?_⟩
  rcases h with ⟨i, rfl, q⟩ | ⟨⟨b, rfl⟩ | ⟨T, ty, hT⟩, q⟩
  · refine ⟨_, rfl, _, _, _, _, true, rfl, .ty _, .base (.int i), kit_ty (by decide +kernel), true, rfl, iteT ?_⟩
    exact ⟨_, rfl, _, _, _, _, false, rfl, .ty _, .base (.int i), kit_ty (by decide +kernel), false, rfl, q⟩
  · refine ⟨_, rfl, _, _, _, _, true, rfl, .ty _, .base (.bl b), kit_ty (by decide +kernel), true, rfl, iteT ?_⟩
    exact ⟨_, rfl, _, _, _, _, true, rfl, .ty _, .base (.bl b), kit_ty (by decide +kernel), true, rfl, q⟩
  · exact ⟨_, rfl, _, _, _, _, false, rfl, .ty _, ty, kit_ty hT, false, rfl, iteF q⟩
def sp_is_between (K : PySem.W.Frag) : Sp := fun vs H Q _ => ∃ (v : V) (lo : Int) (hi : Option Int) (b : Bool), vs = [v, .int lo, hiV hi] ∧ NumV K H v lo hi b ∧ Q (.bl b) H
theorem G_is_between (T : Top K mg) : FnOk P w K mg base CX0 2 T.f_is_between T.fd_is_between ["value", "low", "high"] (sp_is_between K) := by
  refine T.F_is_between.ok sc_is_between (fun vs H Q E h => by obtain ⟨v, lo, hi, b, rfl, _⟩ := h; rfl) (fun cdv A outer s H vs Q E hr h => ?_)
  obtain ⟨v, lo, hi, b, rfl, hv, q⟩ := h
  refine ⟨_, PSs.nox (pss_one (ps_ret (pe_and (pe_call (G_is_whole (P := P) T) (hr.mono (by decide)) (by rfl) T.g_is_whole T.F_is_whole.kp T.b_is_whole .nil pass0 (pa_cons (pv 0) pa_nil)) (pe_and (pe_cmpR op_le (pv 1) (pv 0) (nomark _)) (pe_one (pe_or (pe_cmpR op_isN (pv 2) pe_non (nomark _)) (pe_one (pe_cmpR op_le (pv 0) (pv 2) (nomark _))))))))), ?_⟩
  rcases hv with ⟨i, rfl, rfl⟩ | ⟨hv, rfl⟩
  · refine ⟨_, rfl, _, rfl, .inl ⟨i, rfl, true, rfl, iteT ?_⟩⟩
    refine ⟨_, rfl, _, rfl, _, _, rfl, rfl, _, rfl, ite2 (fun e => ?_) (fun e => ?_)⟩
    · have e1 : lo ≤ i := of_decide_eq_true e
      cases hi with
      | none =>
        refine ⟨_, rfl, rfl, _, rfl, iteT ?_⟩
        rw [decide_eq_true ⟨e1, fun j h => nomatch h⟩] at q
        exact q
      | some j =>
        refine ⟨_, rfl, rfl, _, rfl, iteF ⟨_, rfl, _, rfl, _, _, rfl, rfl, ?_⟩⟩
        have e2 : decide (lo ≤ i ∧ ∀ j', some j = some j' → i ≤ j') = decide (i ≤ j) := by
          by_cases h : i ≤ j
          · rw [decide_eq_true h, decide_eq_true]
            exact ⟨e1, fun j' e => by cases e; exact h⟩
          · rw [decide_eq_false h, decide_eq_false]
            exact fun z => h (z.2 j rfl)
        rw [e2] at q
        exact q
    · have e1 : ¬ lo ≤ i := fun h => e (decide_eq_true h)
      rw [decide_eq_false fun z => e1 z.1] at q
      exact q
  · exact ⟨_, rfl, _, rfl, .inr ⟨hv, false, rfl, iteF q⟩⟩
def sp_check_number (K : PySem.W.Frag) (C : Addr) : Sp := fun vs H Q E => ∃ (v : V) (lo : Int) (hi : Option Int) (b : Bool), vs = [v, .int lo, hiV hi] ∧ NumV K H v lo hi b ∧ (b = true → Q .non H) ∧ (b = false → ∀ d, H d = none → E (.ref C) (some d) (upd H d (.xd [("value", v)])))
theorem G_check_number (T : Top K mg) : FnOk P w K mg base (L2.CX P w) 3 T.f_check_number T.fd_check_number ["number", "low", "high"] (sp_check_number K T.C_InvalidNumber) := by
  refine T.F_check_number.ok (CX := L2.CX P w) sc_check_number (fun vs H Q E h => by obtain ⟨v, lo, hi, b, rfl, _⟩ := h; rfl) (fun cdv A outer s H vs Q E hr h => ?_)
  obtain ⟨v, lo, hi, b, rfl, hv, q1, q2⟩ := h
  refine ⟨_, (pss_one (ps_if (pt_not (pt_val (pe_call (G_is_between (P := P) T) (hr.mono (by decide)) (by rfl) T.g_is_between T.F_is_between.kp T.b_is_between .nil pass0 (pa_cons (pv 0) (pa_cons (pv 1) (pa_cons (pv 2) pa_nil))))))
    (pss_one (ps_raise rfl (takes_of rfl rfl rfl rfl) (pmk_oex T.er_InvalidNumber.sup.T T.er_InvalidNumber.ini T.er_InvalidNumber.ity (G_InvalidNumber___init__ (P := P) (CX := CX0) T) (hr.mono (by decide)) T.er_InvalidNumber.bnd .nil pass0 (by rfl) T.gc_InvalidNumber (pa_cons (pv 0) pa_nil))))
    pss_nil)), ?_⟩
  refine ⟨_, rfl, _, rfl, _, rfl, v, lo, hi, b, rfl, hv, _, rfl, ?_⟩
  cases b with
  | true => exact iteF (q1 rfl)
  | false => exact iteT ⟨_, rfl, mk_sup fun d nd => q2 rfl d nd⟩
end
end My

namespace My
open PySem PySem.Spec PyProof.Rows L2 Pre
/-! ### how rows without a mark grow, in a program -/
theorem NumV.nat {K : PySem.W.Frag} {H : Hp} {n : Nat} {hi : Int} (h : (n : Int) ≤ hi) : NumV K H (.int n) 0 (some hi) true :=
  .inl ⟨n, rfl, (decide_eq_true ⟨Int.natCast_nonneg n, fun j e => by cases e; exact h⟩).symm⟩
/-- a mark and a number asked of -/
def MN (K : PySem.W.Frag) (H : Hp) (hi : Int) (C B : Addr) (v u : V) (E : XK) (ok : List Bool → Bool → Nat → Prop) : Prop :=
  (∃ (A : List Bool) (z : Bool), v = .str (bS (A ++ [z])) ∧ 1 ≤ A.length ∧ A.length ≤ 15 ∧ Keep A z ∧
    ((∃ n : Nat, u = .int n ∧ (n : Int) ≤ hi ∧ ok A z n) ∨ (NumV K H u 0 (some hi) false ∧ ∀ H' d, Same H H' → H' d = none → E (.ref B) (some d) (upd H' d (.xd [("value", u)]))))) ∨
  (BadM K H v ∧ ∀ H' d, Same H H' → H' d = none → E (.ref C) (some d) (upd H' d (.xd [("value", v)])))
local macro_rules | `(tactic| walk_at "go") => `(tactic| repeat (first | (with_reducible first | refine iteT ?_ | refine iteF ?_ | refine iteNtt ?_ | refine iteNff ?_ | refine iteET (by omega) ?_ | refine iteEF (by omega) ?_ | refine iteENT (by omega) ?_ | refine iteENF (by omega) ?_ | refine iteDT (by omega) ?_ | refine iteDF (by omega) ?_ | refine iteNT (by omega) ?_ | refine iteNF (by omega) ?_) | refine ⟨_, rfl, ?_⟩ | refine ⟨_, _, rfl, rfl, ?_⟩ | refine ⟨_, _, rfl, ?_⟩ | refine ⟨rfl, ?_⟩ | refine .inl ⟨_, rfl, ?_⟩ | refine .inr ⟨_, rfl, ?_⟩))
local macro_rules | `(tactic| walk_at "b") => `(tactic| try dsimp (config := { proj := false, iota := false, eta := false, zeta := false }) only)
section
variable {P : Program} {w : World} {K : PySem.W.Frag} {mg : Str → Option Value} {base : Heap} [pf : Sup.PF P fileS]
def sp_state_after : Sp := fun vs H Q _ => ∃ (A : List Bool) (z : Bool) (s : Nat) (b : Bool), vs = [.str (bS (A ++ [z])), .int s, .str (bS [b])] ∧ A.length ≤ 15 ∧ s ≤ A.length ∧ Q (.int (lb (A ++ [z]) ((A ++ [z]).take s ++ [b]))) H
theorem G_state_after (T : Top K mg) : FnOk P w K mg base CX0 1 T.f_state_after T.fd_state_after ["mark", "state", "bit"] sp_state_after := by
  refine T.F_state_after.ok sc_state_after (fun vs H Q E h => by obtain ⟨A, z, s, b, rfl, _⟩ := h; rfl) (fun cdv A outer s H vs Q E hr h => ?_)
  obtain ⟨A, z, s, b, rfl, hz, hs, q⟩ := h
  refine ⟨_, PSs.nox (pss_cons (ps_set (i := 3) sc_state_after.nd rfl (by first | exact Or.inl rfl | exact Or.inr rfl) (pe_op op_add_str (pe_slice sl_str (pv 0) po_none (po_some (pv 1))) (pv 2)))
  (pss_cons (ps_for PassesOwn.never rfl (pi_range3 (by rfl) T.n_range (pa_cons (pe_callB call_len_str (by rfl) T.n_len (by decide +kernel) (pa_cons (pv 3) pa_nil)) (pa_cons pe_int (pa_cons (pe_un un_neg pe_int) pa_nil)))) (pg_name (i := 4) sc_state_after.nd rfl (by first | exact Or.inl rfl | exact Or.inr rfl))
    (pss_one (ps_if (pt_cmpR op_eq (pe_slice sl_str (pv 3) (po_some (pe_op op_sub (pe_callB call_len_str (by rfl) T.n_len (by decide +kernel) (pa_cons (pv 3) pa_nil)) (pv 4))) po_none) (pe_slice sl_str (pv 0) po_none (po_some (pv 4))) (nomark _))
    (pss_one (ps_ret (pv 4)))
    pss_nil)))
  (pss_one (ps_ret pe_int)))), ?_⟩
  have hl : (bS (A ++ [z])).length = A.length + 1 := by rw [bS_len, List.length_append, List.length_singleton]
  refine ⟨_, rfl, _, rfl, _, rfl, _, rfl, by rw [hl, sizeLine_eq]; omega, ?_⟩
  rw [cut_bSt]
  refine ⟨_, rfl, _, _, rfl, rfl, by rw [bS_len, bS_len, List.length_take, List.length_singleton, sizeLine_eq]; omega, ?_⟩
  rw [bS_app]
  have hW : ((A ++ [z]).take s ++ [b]).length = s + 1 := by rw [List.length_append, List.length_take, List.length_append, List.length_singleton, List.length_singleton]; omega
  unfold lb at q
  generalize (A ++ [z]).take s ++ [b] = W at *
  refine ⟨_, rfl, _, rfl, by rw [bS_len, sizeLine_eq]; omega, ?_⟩
  rw [bS_len, hW]
  rw [hW] at q
  refine ⟨_, rfl, _, _, _, _, rfl, RgC.neg (by omega) (by omega) (by omega) (by omega), ?_⟩
  rw [show (((s + 1 : Nat) : Int) - 0).toNat = s + 1 by omega]
  refine for_rangeC (lo := ((s + 1 : Nat) : Int)) (c := -1) (n := s + 1) (fun i σ H1 => ∃ v4 : Option V, σ = [some (.str (bS (A ++ [z]))), some (.int s), some (.str (bS [b])), some (.str (bS W)), v4] ∧ H1 = H ∧ lbG (A ++ [z]) W (s + 1) = lbG (A ++ [z]) W (s + 1 - i)) ⟨none, rfl, rfl, rfl⟩ ?_ ?_
  · rintro i σ H1 hi ⟨v4, rfl, rfl, e⟩
    rw [show ((s + 1 : Nat) : Int) + (i : Nat) * (-1) = ((s - i + 1 : Nat) : Int) by omega]
    refine ⟨_, rfl, _, rfl, _, rfl, by rw [bS_len, hW, sizeLine_eq]; omega, _, rfl, _, _, rfl, rfl, _, rfl, _, rfl, by rw [bS_len, hW, sizeLine_eq]; omega, ?_⟩
    dsimp only
    rw [bS_len, hW, show (((s + 1 : Nat) : Int) - ((s - i + 1 : Nat) : Int)) = ((s + 1 - (s - i + 1) : Nat) : Int) by omega, cut_bSd]
    refine ⟨_, rfl, _, rfl, _, rfl, _, rfl, by rw [hl, sizeLine_eq]; omega, ?_⟩
    rw [cut_bSt]
    refine ⟨rfl, _, rfl, ?_⟩
    rw [dec_bS]
    rw [show s + 1 - i = s - i + 1 by omega] at e
    by_cases h : W.drop (s + 1 - (s - i + 1)) = (A ++ [z]).take (s - i + 1)
    · refine iteDT h ?_
      have e2 : lbG (A ++ [z]) W (s - i + 1) = s - i + 1 := by
        unfold lbG
        rw [hW, if_pos h]
      rw [e, e2] at q
      exact ⟨_, rfl, q⟩
    · refine iteDF h ?_
      have e2 : lbG (A ++ [z]) W (s - i + 1) = lbG (A ++ [z]) W (s - i) := by
        conv => lhs; unfold lbG
        rw [hW, if_neg h]
      exact ⟨_, rfl, rfl, by rw [e, e2, show s + 1 - (i + 1) = s - i by omega]⟩
  · rintro σ H1 ⟨v4, rfl, rfl, e⟩
    rw [e, Nat.sub_self] at q
    exact q
def sp_state_behind : Sp := fun vs H Q _ => ∃ (A : List Bool) (z : Bool), vs = [.str (bS (A ++ [z]))] ∧ A.length ≤ 15 ∧ Q (.int (beh A z)) H
theorem G_state_behind (T : Top K mg) : FnOk P w K mg base CX0 2 T.f_state_behind T.fd_state_behind ["mark"] sp_state_behind := by
  refine T.F_state_behind.ok sc_state_behind (fun vs H Q E h => by obtain ⟨A, z, rfl, _⟩ := h; rfl) (fun cdv A outer s H vs Q E hr h => ?_)
  obtain ⟨A, z, rfl, hz, q⟩ := h
  refine ⟨_, PSs.nox (pss_one (ps_ret (pe_call (G_state_after (P := P) T) (hr.mono (by decide)) (by rfl) T.g_state_after T.F_state_after.kp T.b_state_after .nil pass0 (pa_cons (pv 0) (pa_cons (pe_op op_sub (pe_callB call_len_str (by rfl) T.n_len (by decide +kernel) (pa_cons (pv 0) pa_nil)) pe_int) (pa_cons (pe_call (G_bit_put_in (P := P) T) (hr.mono (by decide)) (by rfl) T.g_bit_put_in T.F_bit_put_in.kp T.b_bit_put_in .nil pass0 (pa_cons (pv 0) pa_nil)) pa_nil)))))), ?_⟩
  have hl : (bS (A ++ [z])).length = A.length + 1 := by rw [bS_len, List.length_append, List.length_singleton]
  refine ⟨_, rfl, _, rfl, _, rfl, by rw [hl, sizeLine_eq]; omega, _, _, rfl, rfl, _, rfl, A, z, rfl, by omega, ?_⟩
  refine ⟨A, z, A.length, !z, by dsimp only; rw [hl, show (((A.length + 1 : Nat) : Int) - 1) = ((A.length : Nat) : Int) by omega]; rfl, hz, Nat.le_refl _, ?_⟩
  rw [List.take_left]
  exact q
def sp_most_growth (K : PySem.W.Frag) (C B : Addr) : Sp := fun vs H Q E => ∃ v u : V, vs = [v, u] ∧ MN K H (10 ^ 18) C B v u E fun A z n => ∀ H', Same H H' → Q (.int (mostG A z n)) H'
theorem G_most_growth (T : Top K mg) : FnOk P w K mg base (L2.CX P w) 6 T.f_most_growth T.fd_most_growth ["mark", "many"] (sp_most_growth K T.C_InvalidMark T.C_InvalidNumber) := by
  refine T.F_most_growth.ok (CX := L2.CX P w) sc_most_growth (fun vs H Q E h => by obtain ⟨v, u, rfl, _⟩ := h; rfl) (fun cdv A outer s H vs Q E hr h => ?_)
  obtain ⟨v, u, rfl, h⟩ := h
  refine ⟨_, (pss_cons (ps_expr (pe_call (G_check_keepable (P := P) T) (hr.mono (by decide)) (by rfl) T.g_check_keepable T.F_check_keepable.kp T.b_check_keepable .nil (passes_call (takes_of rfl rfl rfl rfl) (fun _ _ _ _ h => h)) (pa_cons (pv 0) pa_nil)))
  (pss_cons (ps_expr (pe_call (G_check_number (P := P) T) (hr.mono (by decide)) (by rfl) T.g_check_number T.F_check_number.kp T.b_check_number .nil (passes_call (takes_of rfl rfl rfl rfl) (fun _ _ _ _ h => h)) (pa_cons (pv 1) (pa_cons pe_int (pa_cons (pe_glob (v := .int 1000000000000000000) rfl T.m_MOST_MANY ⟨_, rfl⟩) pa_nil)))))
  (pss_cons (ps_set (i := 2) sc_most_growth.nd rfl (by first | exact Or.inl rfl | exact Or.inr rfl) (pe_op op_sub (pe_callB call_len_str (by rfl) T.n_len (by decide +kernel) (pa_cons (pv 0) pa_nil)) pe_int))
  (pss_cons (ps_if (pt_cmpR op_lt (pv 1) (pv 2) (nomark _))
    (pss_one (ps_ret pe_int))
    pss_nil)
  (pss_one (ps_ret (pe_op op_add pe_int (pe_op op_fdivW (pe_op op_sub (pv 1) (pv 2)) (pe_op op_sub (pv 2) (pe_call (G_state_behind (P := P) T) (hr.mono (by decide)) (by rfl) T.g_state_behind T.F_state_behind.kp T.b_state_behind .nil pass0 (pa_cons (pv 0) pa_nil))))))))))), ?_⟩
  rcases h with ⟨A, z, rfl, h1, h2, hk, ⟨n, rfl, hn, q⟩ | ⟨hu, q⟩⟩ | ⟨hv, q⟩
  · have hl : (bS (A ++ [z])).length = A.length + 1 := by rw [bS_len, List.length_append, List.length_singleton]
    have hb := beh_lt hk
    refine ⟨_, rfl, _, rfl, .inl ⟨A, z, rfl, h1, h2, hk, fun H1 s1 => ?_⟩⟩
    refine ⟨_, rfl, _, 0, some (10 ^ 18), true, rfl, NumV.nat hn, fun _ => ?_, fun z => nomatch z⟩
    refine ⟨_, rfl, _, rfl, by rw [hl, sizeLine_eq]; omega, _, _, rfl, rfl, ?_⟩
    dsimp only
    rw [hl, show (((A.length + 1 : Nat) : Int) - 1) = ((A.length : Nat) : Int) by omega]
    refine ⟨_, rfl, _, rfl, _, _, rfl, rfl, _, rfl, ?_⟩
    have q := q _ s1
    unfold mostG at q
    by_cases hc : n < A.length
    · refine iteDT (by omega) ?_
      rw [if_pos hc] at q
      exact q
    · refine iteDF (by omega) ?_
      rw [if_neg hc] at q
      refine ⟨_, rfl, _, rfl, _, _, rfl, rfl, _, rfl, _, rfl, A, z, rfl, h2, _, _, rfl, rfl, _, _, rfl, rfl, ⟨by omega, div9 (by omega) (by omega)⟩, _, _, rfl, rfl, ?_⟩
      have e : (1 : Int) + ((n : Int) - (A.length : Nat)) / (((A.length : Nat) : Int) - ((beh A z : Nat) : Int)) = ((1 + (n - A.length) / (A.length - beh A z) : Nat) : Int) := by
        rw [show ((n : Int) - (A.length : Nat)) = ((n - A.length : Nat) : Int) by omega, show (((A.length : Nat) : Int) - ((beh A z : Nat) : Int)) = ((A.length - beh A z : Nat) : Int) by omega]
        rfl
      dsimp only
      rw [e]
      exact q
  · refine ⟨_, rfl, _, rfl, .inl ⟨A, z, rfl, h1, h2, hk, fun H1 s1 => ?_⟩⟩
    exact ⟨_, rfl, u, 0, some (10 ^ 18), false, rfl, hu.same s1, (fun z => nomatch z), fun _ d nd => q H1 d s1 nd⟩
  · exact ⟨_, rfl, _, rfl, .inr ⟨hv, fun H' d s nd => q H' d s nd⟩⟩
end
end My

namespace My
open PySem PySem.Spec PyProof.Rows L2 Pre
/-- where the states lead, as data -/
def pairP (p : Nat × Nat) : PyData := .tuple [.int (p.1 : Nat), .int (p.2 : Nat)]
def moveP (A : List Bool) (z : Bool) (i : Nat) : PyData := .list [pairP (stepS A z i false), pairP (stepS A z i true)]
def movesL (A : List Bool) (z : Bool) : List PyData := (List.range A.length).map (moveP A z)
theorem movesL_len (A : List Bool) (z : Bool) : (movesL A z).length = A.length := by unfold movesL; rw [List.length_map, List.length_range]
theorem movesL_get {A : List Bool} {z : Bool} {i : Nat} (h : i < A.length) : (movesL A z)[i]? = some (moveP A z i) := by unfold movesL; rw [List.getElem?_map, List.getElem?_range h]; rfl
local macro_rules | `(tactic| walk_at "go") => `(tactic| repeat (first | (with_reducible first | refine iteT ?_ | refine iteF ?_ | refine iteNtt ?_ | refine iteNff ?_ | refine iteET (by omega) ?_ | refine iteEF (by omega) ?_ | refine iteENT (by omega) ?_ | refine iteENF (by omega) ?_ | refine iteDT (by omega) ?_ | refine iteDF (by omega) ?_ | refine iteNT (by omega) ?_ | refine iteNF (by omega) ?_) | refine ⟨_, rfl, ?_⟩ | refine ⟨_, _, rfl, rfl, ?_⟩ | refine ⟨_, _, rfl, ?_⟩ | refine ⟨rfl, ?_⟩ | refine .inl ⟨_, rfl, ?_⟩ | refine .inr ⟨_, rfl, ?_⟩))
local macro_rules | `(tactic| walk_at "b") => `(tactic| try dsimp (config := { proj := false, iota := false, eta := false, zeta := false }) only)
section
variable {P : Program} {w : World} {K : PySem.W.Frag} {mg : Str → Option Value} {base : Heap} [pf : Sup.PF P fileS]
def sp_most_row (K : PySem.W.Frag) (C B : Addr) : Sp := fun vs H Q E => ∃ v u : V, vs = [v, u] ∧ MN K H 4000 C B v u E fun A z n => ∀ H' j, Same H H' → n ≤ (mostR A z j).length → Q (.str (bS ((mostR A z j).take n))) H'
theorem G_most_row (T : Top K mg) : FnOk P w K mg base (L2.CX P w) 6 T.f_most_row T.fd_most_row ["mark", "many"] (sp_most_row K T.C_InvalidMark T.C_InvalidNumber) := by
  refine T.F_most_row.ok (CX := L2.CX P w) sc_most_row (fun vs H Q E h => by obtain ⟨v, u, rfl, _⟩ := h; rfl) (fun cdv A outer s H vs Q E hr h => ?_)
  obtain ⟨v, u, rfl, h⟩ := h
  refine ⟨_, (pss_cons (ps_expr (pe_call (G_check_keepable (P := P) T) (hr.mono (by decide)) (by rfl) T.g_check_keepable T.F_check_keepable.kp T.b_check_keepable .nil (passes_call (takes_of rfl rfl rfl rfl) (fun _ _ _ _ h => h)) (pa_cons (pv 0) pa_nil)))
  (pss_cons (ps_expr (pe_call (G_check_number (P := P) T) (hr.mono (by decide)) (by rfl) T.g_check_number T.F_check_number.kp T.b_check_number .nil (passes_call (takes_of rfl rfl rfl rfl) (fun _ _ _ _ h => h)) (pa_cons (pv 1) (pa_cons pe_int (pa_cons (pe_glob (v := .int 4000) rfl T.m_MOST_ROW ⟨_, rfl⟩) pa_nil)))))
  (pss_cons (ps_set (i := 2) sc_most_row.nd rfl (by first | exact Or.inl rfl | exact Or.inr rfl) (pe_slice sl_str (pv 0) po_none (po_some (pe_un un_neg pe_int))))
  (pss_cons (ps_while (passes_of rfl) (pt_cmpR op_lt (pe_callB call_len_str (by rfl) T.n_len (by decide +kernel) (pa_cons (pv 2) pa_nil)) (pv 1) (nomark _))
    (pss_one (ps_set (i := 2) sc_most_row.nd rfl (by first | exact Or.inl rfl | exact Or.inr rfl) (pe_op op_add_str (pv 2) (pe_slice sl_str (pv 0) (po_some (pe_call (G_state_behind (P := P) T) (hr.mono (by decide)) (by rfl) T.g_state_behind T.F_state_behind.kp T.b_state_behind .nil pass0 (pa_cons (pv 0) pa_nil))) (po_some (pe_un un_neg pe_int)))))))
  (pss_one (ps_ret (pe_slice sl_str (pv 2) po_none (po_some (pv 1))))))))), ?_⟩
  rcases h with ⟨A, z, rfl, h1, h2, hk, ⟨n, rfl, hn, q⟩ | ⟨hu, q⟩⟩ | ⟨hv, q⟩
  · have hl : (bS (A ++ [z])).length = A.length + 1 := by rw [bS_len, List.length_append, List.length_singleton]
    have hb := beh_lt hk
    have hR := mostR_len A z
    refine ⟨_, rfl, _, rfl, .inl ⟨A, z, rfl, h1, h2, hk, fun H1 s1 => ?_⟩⟩
    refine ⟨_, rfl, _, 0, some 4000, true, rfl, NumV.nat hn, fun _ => ?_, fun z => nomatch z⟩
    refine ⟨_, rfl, _, rfl, _, rfl, _, rfl, by rw [hl, sizeLine_eq]; omega, ?_⟩
    rw [cut_head]
    refine ⟨fun mm σ H2 => ∃ j : Nat, mm = n - (mostR A z j).length ∧ (mostR A z j).length ≤ n + 15 ∧ σ = [some (.str (bS (A ++ [z]))), some (.int n), some (.str (bS (mostR A z j)))] ∧ H2 = H1, ⟨_, 0, rfl, by rw [hR]; omega, by unfold mostR; simp; rfl, rfl⟩, ?_⟩
    rintro mm σ H2 ⟨j, rfl, hj, rfl, rfl⟩
    refine ⟨_, rfl, _, rfl, by rw [bS_len, sizeLine_eq]; omega, _, rfl, _, _, rfl, rfl, _, rfl, ?_⟩
    rw [bS_len]
    by_cases hc : (mostR A z j).length < n
    · refine iteDT (by omega) ?_
      have hs := hR j
      have hs2 := hR (j + 1)
      rw [Nat.succ_mul] at hs2
      refine ⟨fun σ' H' => σ' = [some (.str (bS (A ++ [z]))), some (.int n), some (.str (bS (mostR A z (j + 1))))] ∧ H' = H2, fun σ' H' ⟨e1, e2⟩ => ⟨_, by omega, j + 1, rfl, by omega, e1, e2⟩, ?_⟩
      refine ⟨_, rfl, _, rfl, _, rfl, A, z, rfl, h2, _, rfl, _, rfl, _, rfl, _, rfl, by rw [hl, sizeLine_eq]; omega, ?_⟩
      rw [cut_mid]
      refine ⟨_, _, rfl, rfl, by rw [bS_len, bS_len, List.length_drop, sizeLine_eq]; omega, ?_⟩
      rw [bS_app, ← mostR_succ]
      exact ⟨rfl, rfl⟩
    · refine iteDF (by omega) ?_
      refine ⟨_, rfl, _, rfl, _, rfl, _, rfl, by rw [bS_len, sizeLine_eq]; omega, ?_⟩
      rw [cut_bSt]
      exact q _ j s1 (by omega)
  · refine ⟨_, rfl, _, rfl, .inl ⟨A, z, rfl, h1, h2, hk, fun H1 s1 => ?_⟩⟩
    exact ⟨_, rfl, u, 0, some 4000, false, rfl, hu.same s1, (fun z => nomatch z), fun _ d nd => q H1 d s1 nd⟩
  · exact ⟨_, rfl, _, rfl, .inr ⟨hv, fun H' d s nd => q H' d s nd⟩⟩
def sp_moves_by : Sp := fun vs H Q _ => ∃ (A : List Bool) (z : Bool), vs = [.str (bS (A ++ [z]))] ∧ GoodM A z ∧ ∀ H' a, Same H H' → H a = none → Dt H' (.ref a) (.list (movesL A z)) → Q (.ref a) H'
theorem G_moves_by (T : Top K mg) : FnOk P w K mg base CX0 3 T.f_moves_by T.fd_moves_by ["mark"] sp_moves_by := by
  refine T.F_moves_by.ok sc_moves_by (fun vs H Q E h => by obtain ⟨A, z, rfl, _⟩ := h; rfl) (fun cdv A outer s H vs Q E hr h => ?_)
  obtain ⟨A, z, rfl, ⟨h1, h2, hk⟩, q⟩ := h
  refine ⟨_, PSs.nox (pss_cons (ps_asg (pe_tup (pa_cons (pe_op op_sub (pe_callB call_len_str (by rfl) T.n_len (by decide +kernel) (pa_cons (pv 0) pa_nil)) pe_int) (pa_cons (pe_call (G_state_behind (P := P) T) (hr.mono (by decide)) (by rfl) T.g_state_behind T.F_state_behind.kp T.b_state_behind .nil pass0 (pa_cons (pv 0) pa_nil)) (pa_cons (pe_lst pa_nil) pa_nil)))) (k_pgT K rfl (by rfl) (pgs_cons (pg_name (i := 2) sc_moves_by.nd rfl (by first | exact Or.inl rfl | exact Or.inr rfl)) (pgs_cons (pg_name (i := 3) sc_moves_by.nd rfl (by first | exact Or.inl rfl | exact Or.inr rfl)) (pgs_cons (pg_name (i := 4) sc_moves_by.nd rfl (by first | exact Or.inl rfl | exact Or.inr rfl)) pgs_nil)))))
  (pss_cons (ps_for PassesOwn.never rfl (pi_range1 (by rfl) T.n_range (pa_cons (pv 2) pa_nil)) (pg_name (i := 1) sc_moves_by.nd rfl (by first | exact Or.inl rfl | exact Or.inr rfl))
    (pss_cons (ps_setLc (i := 5) (own := [("bit", 6)]) (g := gName 6) (tt := tYes) (by rfl) sc_moves_by.nd rfl rfl (sw_true rfl rfl rfl (by decide +kernel)) (pi_str pe_str) (blkOk_by (own := [("bit", 6)]) (N := N_moves_by) (sc := defScope s_moves_by) (by decide +kernel)) (fun _ _ _ _ _ => (pg_name (i := 6) sc_moves_by.nd rfl (by first | exact Or.inl rfl | exact Or.inr rfl))) (fun _ _ _ _ _ => pts_nil) (fun _ _ _ _ _ => (pe_call (G_state_after (P := P) T) (hr.mono (by decide)) (by rfl) T.g_state_after T.F_state_after.kp T.b_state_after .nil pass0 (pa_cons (pv 0) (pa_cons (pv 1) (pa_cons (pv 6) pa_nil))))))
  (pss_one (ps_expr (pe_bm PySem.F.plainAttrs_list PySem.F.slot_list_append PySem.F.type_list_append mt_append (pv 4) (pa_cons (pe_lc (own := [("spot", 7)]) (g := gName 7) (tt := tYes) (by rfl) sc_moves_by.nd (k_piL K rfl (pv 5)) (blkOk_by (own := [("spot", 7)]) (N := N_moves_by) (sc := defScope s_moves_by) (by decide +kernel)) (fun _ _ _ _ _ => (pg_name (i := 7) sc_moves_by.nd rfl (by first | exact Or.inl rfl | exact Or.inr rfl))) (fun _ _ _ _ _ => pts_nil) (fun _ _ _ _ _ => (pe_ifExp (pt_cmpR op_eq (pv 7) (pv 2) (nomark _)) (pe_tup (pa_cons (pv 3) (pa_cons pe_int pa_nil))) (pe_tup (pa_cons (pv 7) (pa_cons pe_int pa_nil)))))) pa_nil))))))
  (pss_one (ps_ret (pv 4))))), ?_⟩
  have hl : (bS (A ++ [z])).length = A.length + 1 := by rw [bS_len, List.length_append, List.length_singleton]
  have hb := beh_lt hk
  refine ⟨_, rfl, _, rfl, by rw [hl, sizeLine_eq]; omega, _, _, rfl, rfl, _, rfl, A, z, rfl, h2, Nat.zero_le _, fun m nm => ?_⟩
  obtain ⟨H1, e1, s1, hm1⟩ := fresh (.lst ([] : List V)) nm
  rw [e1]
  refine ⟨(by show 3 ≤ sizeLine; decide), fun t nt => ?_⟩
  dsimp only
  rw [hl, show (((A.length + 1 : Nat) : Int) - 1) = ((A.length : Nat) : Int) by omega]
  obtain ⟨H2, e2, s2, ht2⟩ := fresh (.tup [V.int ((A.length : Nat) : Int), V.int ((beh A z : Nat) : Int), V.ref m]) nt
  rw [e2]
  refine ⟨t, _, rfl, .inl (.inl ht2), rfl, _, _, rfl, _, _, rfl, _, _, rfl, rfl, ?_⟩
  refine ⟨_, rfl, _, rfl, by omega, by omega, ?_⟩
  rw [Int.toNat_natCast]
  refine for_range (lo := 0) (n := A.length) (fun i σ H3 => ∃ v1 v5 : Option V, σ = [some (.str (bS (A ++ [z]))), v1, some (.int ((A.length : Nat) : Int)), some (.int ((beh A z : Nat) : Int)), some (.ref m), v5, none, none] ∧ Same H H3 ∧ ∃ ys, H3 m = some (.lst ys) ∧ DtA (rs [m] H3) ys ((movesL A z).take i)) ⟨none, none, rfl, s1.trans s2, [], s2 _ _ hm1, .nil⟩ ?_ ?_
  · rintro i σ H3 hi ⟨v1, v5, rfl, s3, ys, hm3, hy⟩
    rw [Int.zero_add]
    refine ⟨_, rfl, fun D nD => ?_⟩
    rw [str_01]
    refine lc_dW walk_str (Has.nil (H := H3)) ([false, true].map fun b => some (PyData.int ((lb (A ++ [z]) ((A ++ [z]).take i ++ [b]) : Nat) : Int))) nD rfl (by decide) (fun _ _ => trivial) ?_ ?_
    · rintro j o H0 x H' hj ho s0 hS ⟨rfl, c, hc, rfl⟩ Qt qt
      obtain ⟨b, hb, ec⟩ := bS_at hc
      rw [ec]
      rw [List.getElem?_map, hb] at ho
      cases ho
      refine ⟨rfl, ?_⟩
      unfold tYes
      dsimp only
      rw [if_pos (show true = true from rfl)]
      exact ⟨_, rfl, _, rfl, _, rfl, A, z, i, b, rfl, h2, by omega, qt _ _ (Same.refl _) (.int _)⟩
    · intro H4 s4 hD hd4
      rw [rs_nil] at hd4
      obtain ⟨a5, xs, e, ha5, hx⟩ := hd4.listE
      cases e
      obtain rfl : xs = [V.int ((lb (A ++ [z]) ((A ++ [z]).take i ++ [false]) : Nat) : Int), V.int ((lb (A ++ [z]) ((A ++ [z]).take i ++ [true]) : Nat) : Int)] := by
        cases hx with
        | cons r1 hx => cases hx with
          | cons r2 hx =>
            cases hx
            cases r1
            cases r2
            rfl
      have hm4 := s4 _ _ hm3
      refine ⟨_, rfl, .inl ⟨rfl, _, .inl (.inl hm4)⟩, _, rfl, D, rfl, ⟨_, .inl (.inl ha5)⟩, fun D2 nD2 => ?_⟩
      refine lc_dL (K := K) (a := D) (xs := [V.int ((lb (A ++ [z]) ((A ++ [z]).take i ++ [false]) : Nat) : Int), V.int ((lb (A ++ [z]) ((A ++ [z]).take i ++ [true]) : Nat) : Int)]) (S := [m]) (Has.nil.cons hm4) ([false, true].map fun b => some (pairP (stepS A z i b))) nD2 (.inl (.inl ha5)) rfl (by show 2 < sizeLine; decide) (fun x => rfl) ?_ ?_
      · intro j x o H' hx ho s' hS Qt qt
        obtain ⟨b, rfl, rfl⟩ : ∃ b : Bool, x = V.int ((lb (A ++ [z]) ((A ++ [z]).take i ++ [b]) : Nat) : Int) ∧ o = some (pairP (stepS A z i b)) := by
          match j, hx, ho with
          | 0, hx, ho => cases hx; cases ho; exact ⟨false, rfl, rfl⟩
          | 1, hx, ho => cases hx; cases ho; exact ⟨true, rfl, rfl⟩
          | j + 2, hx, ho => simp at hx
        unfold tYes
        dsimp only
        rw [if_pos (show true = true from rfl)]
        refine ⟨_, rfl, _, rfl, rfl, _, rfl, ?_⟩
        have fin : ∀ (p : Addr) (q : Nat × Nat), H' p = none → Dt (rs [D2, m] (upd H' p (.tup [V.int ((q.1 : Nat) : Int), V.int ((q.2 : Nat) : Int)]))) (.ref p) (pairP q) := fun p q np => .tup (by rw [rs_out (hS.out np), upd_same]) (.cons (.int _) (.cons (.int _) .nil))
        unfold stepS at qt
        by_cases hc : lb (A ++ [z]) ((A ++ [z]).take i ++ [b]) = A.length
        · rw [if_pos hc] at qt
          refine iteDT (by rw [hc]) ?_
          exact ⟨_, rfl, (by show 2 ≤ sizeLine; decide), fun p np => qt _ _ (same_upd np) (fin p (beh A z, 1) np)⟩
        · rw [if_neg hc] at qt
          refine iteDF (fun h => hc (by have := V.int.inj h; omega)) ?_
          exact ⟨_, rfl, (by show 2 ≤ sizeLine; decide), fun p np => qt _ _ (same_upd np) (fin p (_, 0) np)⟩
      · intro H5 s5 hD2 hd5
        have hm5 := s5 _ _ hm4
        refine ⟨m, _, _, rfl, rfl, hm5, by rw [hy.len, List.length_take, movesL_len, sizeLine_eq]; omega, ?_⟩
        refine ⟨_, _, rfl, same_over nm ((s3.trans s4).trans s5), _, upd_same, ?_⟩
        rw [rs_upd (List.mem_singleton.mpr rfl), List.take_add_one, movesL_get hi]
        exact (hy.same (rs_same (s4.trans s5))).app (.cons hd5 .nil)
  · rintro σ H3 ⟨v1, v5, rfl, s3, ys, hm3, hy⟩
    rw [List.take_of_length_le (by rw [movesL_len]; exact Nat.le_refl _)] at hy
    exact ⟨_, rfl, q _ m s3 nm (.lst hm3 (hy.same rs_le))⟩
end
end My

namespace My
open PySem PySem.Spec PyProof.Rows L2 Pre
/-! ### counts added -/
/-- noughts behind, up to a width -/
def padN (W : Nat) (xs : List Nat) : List Nat := xs ++ List.replicate (W - xs.length) 0
theorem padN_len {W : Nat} {xs : List Nat} (h : xs.length ≤ W) : (padN W xs).length = W := by unfold padN; rw [List.length_append, List.length_replicate]; omega
theorem padN_get (W : Nat) (xs : List Nat) (i : Nat) (h : i < W) : (padN W xs)[i]? = some (xs.getD i 0) := by
  unfold padN
  rw [List.getD_eq_getElem?_getD]
  by_cases hi : i < xs.length
  · rw [List.getElem?_append_left hi, List.getElem?_eq_getElem hi]
    rfl
  · rw [List.getElem?_append_right (by omega), List.getElem?_eq_none (l := xs) (by omega), List.getElem?_replicate, if_pos (by omega)]
    rfl
theorem rep0 (k : Nat) : (List.replicate k [V.int 0]).flatten = (nI (List.replicate k 0)).map V.int := by
  induction k with
  | zero => rfl
  | succ k ih => rw [List.replicate_succ, List.flatten_cons, ih, List.replicate_succ]; rfl
theorem nI_pad (W : Nat) (xs : List Nat) : (nI xs).map V.int ++ (nI (List.replicate (W - xs.length) 0)).map V.int = (nI (padN W xs)).map V.int := by
  unfold padN nI
  rw [List.map_append, List.map_append]
theorem sm_at {xs ys : List Nat} {i : Nat} (h : i < max xs.length ys.length) : (sm xs ys)[i]? = some (xs.getD i 0 + ys.getD i 0) := by
  unfold sm
  rw [List.getElem?_map, List.getElem?_range h]
  rfl
local macro_rules | `(tactic| walk_at "go") => `(tactic| repeat (first | (with_reducible first | refine iteT ?_ | refine iteF ?_ | refine iteNtt ?_ | refine iteNff ?_ | refine iteET (by omega) ?_ | refine iteEF (by omega) ?_ | refine iteENT (by omega) ?_ | refine iteENF (by omega) ?_ | refine iteDT (by omega) ?_ | refine iteDF (by omega) ?_ | refine iteNT (by omega) ?_ | refine iteNF (by omega) ?_) | refine ⟨_, rfl, ?_⟩ | refine ⟨_, _, rfl, rfl, ?_⟩ | refine ⟨_, _, rfl, ?_⟩ | refine ⟨rfl, ?_⟩ | refine .inl ⟨_, rfl, ?_⟩ | refine .inr ⟨_, rfl, ?_⟩))
local macro_rules | `(tactic| walk_at "b") => `(tactic| try dsimp (config := { proj := false, iota := false, eta := false, zeta := false }) only)
section
variable {P : Program} {w : World} {K : PySem.W.Frag} {mg : Str → Option Value} {base : Heap} [pf : Sup.PF P fileS]
def sp_summed (K : PySem.W.Frag) : Sp := fun vs H Q _ => ∃ (a b : Addr) (xs ys : List Nat), vs = [.ref a, .ref b] ∧ H a = some (.lst ((nI xs).map V.int)) ∧ H b = some (.lst ((nI ys).map V.int)) ∧ xs.length ≤ 1000 ∧ ys.length ≤ 1000 ∧
  ∀ H' p, Same H H' → H p = none → H' p = some (.lst ((nI (sm xs ys)).map V.int)) → Q (.ref p) H'
theorem G_summed (T : Top K mg) : FnOk P w K mg base CX0 1 T.f_summed T.fd_summed ["one", "other"] (sp_summed K) := by
  refine T.F_summed.ok sc_summed (fun vs H Q E h => by obtain ⟨a, b, xs, ys, rfl, _⟩ := h; rfl) (fun cdv A outer s H vs Q E hr h => ?_)
  obtain ⟨a, b, xs, ys, rfl, hA, hB, hx, hy, q⟩ := h
  refine ⟨_, PSs.nox (pss_cons (ps_set (i := 2) sc_summed.nd rfl (by first | exact Or.inl rfl | exact Or.inr rfl) (pe_callB (call_max2 rfl) (by rfl) T.n_max (by decide +kernel) (pa_cons (pe_callB (k_len K rfl) (by rfl) T.n_len (by decide +kernel) (pa_cons (pv 0) pa_nil)) (pa_cons (pe_callB (k_len K rfl) (by rfl) T.n_len (by decide +kernel) (pa_cons (pv 1) pa_nil)) pa_nil))))
  (pss_cons (ps_par (by rfl) sc_summed.nd (i := 3) (j := 4) rfl rfl (by decide) rfl rfl (pa_cons (pe_op op_cat (pv 0) (pe_op op_rep (pe_lst (pa_cons pe_int pa_nil)) (pe_op op_sub (pv 2) (pe_callB (k_len K rfl) (by rfl) T.n_len (by decide +kernel) (pa_cons (pv 0) pa_nil))))) (pa_cons (pe_op op_cat (pv 1) (pe_op op_rep (pe_lst (pa_cons pe_int pa_nil)) (pe_op op_sub (pv 2) (pe_callB (k_len K rfl) (by rfl) T.n_len (by decide +kernel) (pa_cons (pv 1) pa_nil))))) pa_nil)) (by rfl))
  (pss_one (ps_ret (pe_lc (own := [("left", 5), ("right", 6)]) (g := gTup K 2 (gCons (gName 5) (gCons (gName 6) (gNil)))) (tt := tYes) (by rfl) sc_summed.nd (k_piZL K rfl (by rfl) T.n_zip (pa_cons (pv 3) (pa_cons (pv 4) pa_nil)) (pk_cons pe_bl pk_nil)) (blkOk_by (own := [("left", 5), ("right", 6)]) (N := N_summed) (sc := defScope s_summed) (by decide +kernel)) (fun _ _ _ _ _ => (k_pgT K rfl (by rfl) (pgs_cons (pg_name (i := 5) sc_summed.nd rfl (by first | exact Or.inl rfl | exact Or.inr rfl)) (pgs_cons (pg_name (i := 6) sc_summed.nd rfl (by first | exact Or.inl rfl | exact Or.inr rfl)) pgs_nil)))) (fun _ _ _ _ _ => pts_nil) (fun _ _ _ _ _ => (pe_op op_add (pv 5) (pv 6)))))))), ?_⟩
  refine ⟨_, rfl, a, _, rfl, .inl (.inl (.inl hA)), _, rfl, b, _, rfl, .inl (.inl (.inl hB)), ?_⟩
  refine ⟨_, _, rfl, ?_⟩
  have eW : (if (((nI ys).map V.int).length : Int) > (((nI xs).map V.int).length : Int) then (((nI ys).map V.int).length : Int) else (((nI xs).map V.int).length : Int)) = ((max xs.length ys.length : Nat) : Int) := by
    rw [nI_len, nI_len]
    split <;> omega
  rw [eW]
  generalize hW : max xs.length ys.length = W
  have hWx : xs.length ≤ W := by omega
  have hWy : ys.length ≤ W := by omega
  have hWb : W ≤ 1000 := by omega
  refine ⟨_, rfl, (by show 1 ≤ sizeLine; decide), fun p1 np1 => ?_⟩
  obtain ⟨H1, e1, s1, hp1⟩ := fresh (.lst [V.int 0]) np1
  rw [e1]
  refine ⟨_, rfl, _, rfl, a, _, rfl, .inl (.inl (.inl (s1 _ _ hA))), _, _, rfl, rfl, ?_⟩
  dsimp only
  rw [nI_len, show ((W : Int) - (xs.length : Nat)) = ((W - xs.length : Nat) : Int) by omega]
  refine ⟨p1, _, _, rfl, rfl, hp1, by omega, by omega, by rw [Int.toNat_natCast, sizeLine_eq]; show 1 * _ ≤ _; omega, fun p2 np2 => ?_⟩
  rw [Int.toNat_natCast, rep0]
  obtain ⟨H2, e2, s2, hp2⟩ := fresh (.lst ((nI (List.replicate (W - xs.length) 0)).map V.int)) np2
  rw [e2]
  refine ⟨a, p2, _, _, rfl, rfl, s2 _ _ (s1 _ _ hA), hp2, by rw [nI_len, nI_len, List.length_replicate, sizeLine_eq]; omega, fun p3 np3 => ?_⟩
  rw [nI_pad]
  obtain ⟨H3, e3, s3, hp3⟩ := fresh (.lst ((nI (padN W xs)).map V.int)) np3
  rw [e3]
  have hB3 := s3 _ _ (s2 _ _ (s1 _ _ hB))
  refine ⟨_, rfl, (by show 1 ≤ sizeLine; decide), fun p4 np4 => ?_⟩
  obtain ⟨H4, e4, s4, hp4⟩ := fresh (.lst [V.int 0]) np4
  rw [e4]
  refine ⟨_, rfl, _, rfl, b, _, rfl, .inl (.inl (.inl (s4 _ _ hB3))), _, _, rfl, rfl, ?_⟩
  dsimp only
  rw [nI_len, show ((W : Int) - (ys.length : Nat)) = ((W - ys.length : Nat) : Int) by omega]
  refine ⟨p4, _, _, rfl, rfl, hp4, by omega, by omega, by rw [Int.toNat_natCast, sizeLine_eq]; show 1 * _ ≤ _; omega, fun p5 np5 => ?_⟩
  rw [Int.toNat_natCast, rep0]
  obtain ⟨H5, e5, s5, hp5⟩ := fresh (.lst ((nI (List.replicate (W - ys.length) 0)).map V.int)) np5
  rw [e5]
  refine ⟨b, p5, _, _, rfl, rfl, s5 _ _ (s4 _ _ hB3), hp5, by rw [nI_len, nI_len, List.length_replicate, sizeLine_eq]; omega, fun p6 np6 => ?_⟩
  rw [nI_pad]
  obtain ⟨H6, e6, s6, hp6⟩ := fresh (.lst ((nI (padN W ys)).map V.int)) np6
  rw [e6]
  have hx6 := s6 _ _ (s5 _ _ (s4 _ _ hp3))
  refine ⟨_, _, rfl, ?_⟩
  refine ⟨_, rfl, _, rfl, rfl, p3, p6, _, _, rfl, .inl (.inl hx6), .inl (.inl hp6), fun D nD => ?_⟩
  have lx := padN_len hWx
  have ly := padN_len hWy
  refine lc_dW (walk_zl (K := K) (a := p3) (b := p6) (xs := (nI (padN W xs)).map V.int) (ys := (nI (padN W ys)).map V.int) (by rw [nI_len, nI_len, lx, ly])) (S := []) Has.nil ((sm xs ys).map fun n : Nat => some (PyData.int (n : Int))) nD (by rw [List.length_map, sm_len, nI_len, lx, hW]) (by rw [nI_len, lx]; exact small4 (by omega)) (fun H' s => ⟨.inl (.inl (s _ _ hx6)), .inl (.inl (s _ _ hp6))⟩) ?_ ?_
  · rintro j o H0 x H'' hj ho s0 hH ⟨T1, x1, y1, rfl, nT, rfl, e1, e2⟩ Qt qt
    have st := same_upd (o := .tup [x1, y1]) nT
    rw [nI_len, lx] at hj
    dsimp only at e1 e2
    rw [nI_get (padN_get W xs j hj)] at e1
    rw [nI_get (padN_get W ys j hj)] at e2
    cases e1
    cases e2
    rw [List.getElem?_map, sm_at (by omega)] at ho
    cases ho
    refine ⟨T1, _, rfl, .inl (.inl upd_same), rfl, _, _, rfl, _, _, rfl, rfl, rfl, ?_⟩
    unfold tYes
    dsimp only
    rw [if_pos (show true = true from rfl)]
    refine ⟨_, rfl, _, rfl, _, _, rfl, rfl, ?_⟩
    refine qt _ _ st ?_
    show Dt _ (V.int (((xs.getD j 0 : Nat) : Int) + ((ys.getD j 0 : Nat) : Int))) (PyData.int ((xs.getD j 0 + ys.getD j 0 : Nat) : Int))
    rw [Int.natCast_add]
    exact .int _
  · intro H7 s7 hD7 dD
    rw [rs_nil, show ((sm xs ys).map fun n : Nat => some (PyData.int (n : Int))).filterMap id = (nI (sm xs ys)).map PyData.int by rw [sel_map, List.map_map]; rfl] at dD
    obtain ⟨a7, e, h7⟩ := Dt.intsE (ns := nI (sm xs ys)) dD
    cases e
    have s06 : Same H H6 := ((s1.trans s2).trans s3).trans ((s4.trans s5).trans s6)
    exact q _ D (s06.trans s7) (s06.free nD) h7
end
end My

namespace My
open PySem PySem.Spec PyProof.Rows L2 Pre
/-! ### rows of counts in a heap -/
def rowN (L : List Nat) : PyData := rowD (nI L)
theorem DtA.set {H : Hp} : ∀ {vs : List V} {ds : List PyData} {j : Nat} {v : V} {d : PyData}, DtA H vs ds → Dt H v d → DtA H (vs.set j v) (ds.set j d)
  | _, _, _, _, _, .nil, _ => .nil
  | _ :: _, _ :: _, 0, _, _, .cons _ b, h => .cons h b
  | _ :: _, _ :: _, j + 1, _, _, .cons a b, h => .cons a (DtA.set b h)
/-- rows whose counts are told -/
def RowsH (n : Nat) (Ls : List (List Nat)) (f : Nat → Nat → Nat) : Prop := Ls.length = n ∧ ∀ (i : Nat) (L : List Nat), Ls[i]? = some L → IsH L (f i)
theorem RowsH.get {n : Nat} {Ls : List (List Nat)} {f : Nat → Nat → Nat} (h : RowsH n Ls f) {i : Nat} (hi : i < n) : ∃ L, Ls[i]? = some L ∧ IsH L (f i) := by
  have hl : i < Ls.length := by rw [h.1]; exact hi
  exact ⟨Ls[i], List.getElem?_eq_getElem hl, h.2 i _ (List.getElem?_eq_getElem hl)⟩
theorem RowsH.set {n : Nat} {Ls : List (List Nat)} {f g : Nat → Nat → Nat} (h : RowsH n Ls f) {j : Nat} {M : List Nat} (hM : IsH M (g j)) (e : ∀ i, i ≠ j → ∀ k, f i k = g i k) : RowsH n (Ls.set j M) g := by
  refine ⟨by rw [List.length_set]; exact h.1, fun i L hL => ?_⟩
  rw [List.getElem?_set] at hL
  by_cases c : j = i
  · subst c
    rw [if_pos rfl] at hL
    split at hL
    · cases hL; exact hM
    · cases hL
  · rw [if_neg c] at hL
    exact (h.2 i L hL).congr (e i fun h => c h.symm)
theorem RowsH.congr {n : Nat} {Ls : List (List Nat)} {f g : Nat → Nat → Nat} (h : RowsH n Ls f) (e : ∀ i k, f i k = g i k) : RowsH n Ls g := ⟨h.1, fun i L hL => (h.2 i L hL).congr (e i)⟩
theorem gr_le (A : List Bool) (z : Bool) (x : List Bool) : grA A z x ≤ x.length := by
  have := (stuff_len (A := A) (z := z) x).2
  unfold grA
  omega
theorem prs_small (A : List Bool) (z : Bool) (t : Nat) : ∀ p ∈ prs A z t, p.2 ≤ t := fun p hp => by
  obtain ⟨x, hx, rfl⟩ := List.mem_map.mp hp
  have := gr_le A z x
  rw [(wds_mem t x).mp hx] at this
  exact this
theorem cS_big (A : List Bool) (z : Bool) {t i k : Nat} (h : t < k) : cS (prs A z t) i k = 0 := by
  unfold cS
  rw [List.countP_eq_zero]
  intro p hp e
  have := prs_small A z t p hp
  have := (of_decide_eq_true e).2
  omega
theorem cB_big (A : List Bool) (z : Bool) (b : Bool) {t n s k : Nat} (h : t + 1 < k) : cB A z b (prs A z t) n s k = 0 := by
  unfold cB
  rw [List.countP_eq_zero]
  intro p hp e
  have h1 := prs_small A z t p hp
  have h2 := (of_decide_eq_true e).2.2
  have h3 : p.2 + (stepS A z p.1 b).2 = k := h2
  have h4 : (stepS A z p.1 b).2 ≤ 1 := by
    unfold stepS
    split
    · exact Nat.le_refl _
    · exact Nat.zero_le _
  omega
theorem prs_zero (A : List Bool) (z : Bool) : prs A z 0 = [(0, 0)] := by
  unfold prs
  rw [wds, List.map_cons, List.map_nil, st_nil]
  rfl
theorem firsts (A : List Bool) (z : Bool) (h1 : 1 ≤ A.length) : RowsH A.length ([1] :: List.replicate (A.length - 1) []) (fun i k => cS (prs A z 0) i k) := by
  refine ⟨by rw [List.length_cons, List.length_replicate]; omega, fun i L hL => ?_⟩
  rw [prs_zero]
  cases i with
  | zero =>
    cases hL
    refine ⟨fun k => ?_, fun _ => (by show (1 : Nat) ≠ 0; decide)⟩
    cases k <;> rfl
  | succ i =>
    rw [List.getElem?_cons_succ, List.getElem?_replicate] at hL
    split at hL
    · cases hL
      exact IsH.nil.congr fun k => rfl
    · cases hL
theorem nils (n : Nat) : (List.replicate n (some (PyData.list []))).filterMap id = (List.replicate n ([] : List Nat)).map rowN := by
  induction n with
  | zero => rfl
  | succ n ih => rw [List.replicate_succ, List.filterMap_cons, ih, List.replicate_succ]; rfl
local macro_rules | `(tactic| walk_at "go") => `(tactic| repeat (first | (with_reducible first | refine iteT ?_ | refine iteF ?_ | refine iteNtt ?_ | refine iteNff ?_ | refine iteET (by omega) ?_ | refine iteEF (by omega) ?_ | refine iteENT (by omega) ?_ | refine iteENF (by omega) ?_ | refine iteDT (by omega) ?_ | refine iteDF (by omega) ?_ | refine iteNT (by omega) ?_ | refine iteNF (by omega) ?_) | refine ⟨_, rfl, ?_⟩ | refine ⟨_, _, rfl, rfl, ?_⟩ | refine ⟨_, _, rfl, ?_⟩ | refine ⟨rfl, ?_⟩ | refine .inl ⟨_, rfl, ?_⟩ | refine .inr ⟨_, rfl, ?_⟩))
local macro_rules | `(tactic| walk_at "b") => `(tactic| try dsimp (config := { proj := false, iota := false, eta := false, zeta := false }) only)
section
variable {P : Program} {w : World} {K : PySem.W.Frag} {mg : Str → Option Value} {base : Heap} [pf : Sup.PF P fileS]
def sp_first_counts (K : PySem.W.Frag) : Sp := fun vs H Q _ => ∃ (m : Addr) (ds : List PyData), vs = [.ref m] ∧ Dt H (.ref m) (.list ds) ∧ 1 ≤ ds.length ∧ ds.length ≤ 100 ∧ ∀ H' p, Same H H' → Dt H' (.ref p) (.list (([1] :: List.replicate (ds.length - 1) []).map rowN)) → Q (.ref p) H'
theorem G_first_counts (T : Top K mg) : FnOk P w K mg base CX0 1 T.f_first_counts T.fd_first_counts ["moves"] (sp_first_counts K) := by
  refine T.F_first_counts.ok sc_first_counts (fun vs H Q E h => by obtain ⟨m, ds, rfl, _⟩ := h; rfl) (fun cdv A outer s H vs Q E hr h => ?_)
  obtain ⟨m, ds, rfl, hm, h1, hz, q⟩ := h
  refine ⟨_, PSs.nox (pss_one (ps_ret (pe_op op_cat (pe_lst (pa_cons (pe_lst (pa_cons pe_int pa_nil)) pa_nil)) (pe_lc (own := [("state", 1)]) (g := gName 1) (tt := tYes) (by rfl) sc_first_counts.nd (k_piL K rfl (pe_slice (k_slL K rfl) (pv 0) (po_some pe_int) po_none)) (blkOk_by (own := [("state", 1)]) (N := N_first_counts) (sc := defScope s_first_counts) (by decide +kernel)) (fun _ _ _ _ _ => (pg_name (i := 1) sc_first_counts.nd rfl (by first | exact Or.inl rfl | exact Or.inr rfl))) (fun _ _ _ _ _ => pts_nil) (fun _ _ _ _ _ => (pe_lst pa_nil)))))), ?_⟩
  obtain ⟨a, xs, e, hxs, hx⟩ := hm.listE
  cases e
  refine ⟨(by show 1 ≤ sizeLine; decide), fun p1 np1 => ?_⟩
  obtain ⟨H1, e1, s1, hp1⟩ := fresh (.lst [V.int 1]) np1
  rw [e1]
  refine ⟨(by show 1 ≤ sizeLine; decide), fun p2 np2 => ?_⟩
  obtain ⟨H2, e2, s2, hp2⟩ := fresh (.lst [V.ref p1]) np2
  rw [e2]
  refine ⟨_, rfl, _, rfl, m, _, rfl, .inl (.inl (s2 _ _ (s1 _ _ hxs))), fun p3 np3 => ?_⟩
  have ec : cutV xs (some 1) none = xs.drop 1 := by
    unfold cutV
    rw [show (1 : Int) = ((1 : Nat) : Int) from rfl, HT.sIx_nat, HT.sIx_none, Nat.min_eq_left (by rw [hx.len]; exact h1), List.take_of_length_le (by rw [List.length_drop]; exact Nat.le_refl _)]
  rw [ec]
  obtain ⟨H3, e3, s3, hp3⟩ := fresh (.lst (xs.drop 1)) np3
  rw [e3]
  refine ⟨p3, rfl, ⟨_, .inl (.inl hp3)⟩, fun D nD => ?_⟩
  refine lc_dL (K := K) (a := p3) (xs := xs.drop 1) (S := []) Has.nil (List.replicate (ds.length - 1) (some (PyData.list []))) nD (.inl (.inl hp3)) (by rw [List.length_replicate, List.length_drop, hx.len]) (by rw [List.length_drop, hx.len]; exact small4 (by omega)) (fun x => rfl) ?_ ?_
  · intro i x o H' hxi ho s' hS Qt qt
    rw [List.getElem?_replicate] at ho
    split at ho
    · cases ho
      unfold tYes
      dsimp only
      rw [if_pos (show true = true from rfl)]
      refine ⟨Nat.zero_le _, fun p np => ?_⟩
      exact qt _ _ (same_upd np) (.lst (by rw [rs_out (hS.out np), upd_same]) .nil)
    · cases ho
  · intro H4 s4 hD4 hd4
    rw [rs_nil, nils] at hd4
    obtain ⟨a4, ys, e, hys, hy⟩ := hd4.listE
    cases e
    have hp24 := s4 _ _ (s3 _ _ hp2)
    have hp14 := s4 _ _ (s3 _ _ (s2 _ _ hp1))
    refine ⟨p2, D, _, _, rfl, rfl, hp24, hys, by rw [hy.len, List.length_map, List.length_replicate, sizeLine_eq]; show 1 + _ ≤ _; omega, fun e ne => ?_⟩
    have s5 := same_upd (o := .lst ([V.ref p1] ++ ys)) ne
    exact q _ e ((((s1.trans s2).trans s3).trans s4).trans s5) (.lst upd_same (.cons (Dt.ints (ns := [1]) (s5 _ _ hp14)) (hy.same s5)))
end
end My

namespace My
open PySem PySem.Spec PyProof.Rows L2 Pre
/-- empty rows, none of them the list that holds them -/
theorem nils_off {H : Hp} {D : Addr} {zs : List V} (hD : H D = some (.lst zs)) (hz : zs ≠ []) : ∀ {ys : List V} {n : Nat}, DtA H ys ((List.replicate n ([] : List Nat)).map rowN) → DtA (rs [D] H) ys ((List.replicate n ([] : List Nat)).map rowN)
  | [], n, h => by
    cases n with
    | zero => exact .nil
    | succ n => rw [List.replicate_succ, List.map_cons] at h; cases h
  | y :: ys, n, h => by
    cases n with
    | zero => cases h
    | succ n =>
      rw [List.replicate_succ, List.map_cons] at h ⊢
      cases h with
      | cons a b =>
        obtain ⟨r, rfl, hr⟩ := Dt.intsE (ns := []) a
        refine .cons ?_ (nils_off hD hz b)
        refine Dt.ints (ns := []) ?_
        rw [rs_out]
        · exact hr
        · intro hm
          rw [List.mem_singleton.mp hm, hD] at hr
          exact hz (by cases hr; rfl)
/-- the bits up to one done -/
def bitsUp (A : List Bool) (z : Bool) (P : List (Nat × Nat)) (i j s k : Nat) : Nat := cB A z false P (if 1 ≤ j then i + 1 else i) s k + cB A z true P (if 2 ≤ j then i + 1 else i) s k
theorem bitsUp_step (A : List Bool) (z : Bool) (P : List (Nat × Nat)) (i j s k : Nat) (hj : j < 2) :
    bitsUp A z P i (j + 1) s k = bitsUp A z P i j s k + if (stepS A z i (j == 1)).1 = s then (if (stepS A z i (j == 1)).2 ≤ k then cS P i (k - (stepS A z i (j == 1)).2) else 0) else 0 := by
  unfold bitsUp
  have : j = 0 ∨ j = 1 := by omega
  rcases this with rfl | rfl
  · rw [show ((0 : Nat) == 1) = false from rfl, if_pos (by decide), if_neg (by decide), if_neg (by decide), if_neg (by decide), cB_succ]
    omega
  · rw [show ((1 : Nat) == 1) = true from rfl, if_pos (by decide), if_pos (by decide), if_pos (by decide), if_neg (by decide), cB_succ (b := true)]
    omega
theorem stepS_lt {A : List Bool} {z : Bool} (k : Keep A z) {i : Nat} (hi : i < A.length) (b : Bool) : (stepS A z i b).1 < A.length ∧ (stepS A z i b).2 ≤ 1 := by
  have hb := beh_lt k
  have hu := step_up (A := A) (z := z) i b
  unfold stepS
  split
  · exact ⟨hb, Nat.le_refl _⟩
  · rename_i h
    exact ⟨by show lb _ _ < _; omega, Nat.zero_le _⟩
local macro_rules | `(tactic| walk_at "go") => `(tactic| repeat (first | (with_reducible first | refine iteT ?_ | refine iteF ?_ | refine iteNtt ?_ | refine iteNff ?_ | refine iteET (by omega) ?_ | refine iteEF (by omega) ?_ | refine iteENT (by omega) ?_ | refine iteENF (by omega) ?_ | refine iteDT (by omega) ?_ | refine iteDF (by omega) ?_ | refine iteNT (by omega) ?_ | refine iteNF (by omega) ?_) | refine ⟨_, rfl, ?_⟩ | refine ⟨_, _, rfl, rfl, ?_⟩ | refine ⟨_, _, rfl, ?_⟩ | refine ⟨rfl, ?_⟩ | refine .inl ⟨_, rfl, ?_⟩ | refine .inr ⟨_, rfl, ?_⟩))
local macro_rules | `(tactic| walk_at "b") => `(tactic| try dsimp (config := { proj := false, iota := false, eta := false, zeta := false }) only)
section
variable {P : Program} {w : World} {K : PySem.W.Frag} {mg : Str → Option Value} {base : Heap} [pf : Sup.PF P fileS]
def sp_counts_by : Sp := fun vs H Q _ => ∃ (m c : Addr) (A : List Bool) (z : Bool) (t : Nat) (Ls : List (List Nat)), vs = [.ref m, .ref c] ∧ GoodM A z ∧ t ≤ 400 ∧ Dt H (.ref m) (.list (movesL A z)) ∧ Dt H (.ref c) (.list (Ls.map rowN)) ∧ RowsH A.length Ls (cS (prs A z t)) ∧
  ∀ H' p Ms, Same H H' → Dt H' (.ref p) (.list (Ms.map rowN)) → RowsH A.length Ms (cS (prs A z (t + 1))) → Q (.ref p) H'
theorem G_counts_by (T : Top K mg) : FnOk P w K mg base CX0 2 T.f_counts_by T.fd_counts_by ["moves", "counts"] sp_counts_by := by
  refine T.F_counts_by.ok sc_counts_by (fun vs H Q E h => by obtain ⟨m, c, A, z, t, Ls, rfl, _⟩ := h; rfl) (fun cdv A outer s H vs Q E hr h => ?_)
  obtain ⟨m, c, A, z, t, Ls, rfl, ⟨h1, h2, hk⟩, ht, hm, hc, hR, q⟩ := h
  refine ⟨_, PSs.nox (pss_cons (ps_setLc (i := 2) (own := [("state", 5)]) (g := gName 5) (tt := tYes) (by rfl) sc_counts_by.nd rfl rfl (sw_true rfl rfl rfl (by decide +kernel)) (k_piL K rfl (pv 0)) (blkOk_by (own := [("state", 5)]) (N := N_counts_by) (sc := defScope s_counts_by) (by decide +kernel)) (fun _ _ _ _ _ => (pg_name (i := 5) sc_counts_by.nd rfl (by first | exact Or.inl rfl | exact Or.inr rfl))) (fun _ _ _ _ _ => pts_nil) (fun _ _ _ _ _ => (pe_lst pa_nil)))
  (pss_cons (ps_for PassesOwn.never rfl (k_piZL K rfl (by rfl) T.n_zip (pa_cons (pv 0) (pa_cons (pv 1) pa_nil)) (pk_cons pe_bl pk_nil)) (k_pgT K rfl (by rfl) (pgs_cons (pg_name (i := 3) sc_counts_by.nd rfl (by first | exact Or.inl rfl | exact Or.inr rfl)) (pgs_cons (pg_name (i := 4) sc_counts_by.nd rfl (by first | exact Or.inl rfl | exact Or.inr rfl)) pgs_nil)))
    (pss_one (ps_for PassesOwn.never rfl (k_piL K rfl (pv 3)) (k_pgT K rfl (by rfl) (pgs_cons (pg_name (i := 6) sc_counts_by.nd rfl (by first | exact Or.inl rfl | exact Or.inr rfl)) (pgs_cons (pg_name (i := 7) sc_counts_by.nd rfl (by first | exact Or.inl rfl | exact Or.inr rfl)) pgs_nil)))
    (pss_one (ps_asg (pe_call (G_summed (P := P) T) (hr.mono (by decide)) (by rfl) T.g_summed T.F_summed.kp T.b_summed .nil pass0 (pa_cons (pe_ix (k_ixL K rfl) (pv 2) (pv 6) (fun _ _ => rfl)) (pa_cons (pe_ifExp (pt_cmpR (k_neD K rfl hr.units) (pv 4) (pe_lst pa_nil) (nomark _)) (pe_op op_cat (pe_op op_rep (pe_lst (pa_cons pe_int pa_nil)) (pv 7)) (pv 4)) (pe_lst pa_nil)) pa_nil))) (pg_sub (pv 2) (pv 6) set_list))))))
  (pss_one (ps_ret (pv 2))))), ?_⟩
  obtain ⟨_, xm, e, hxm, hdm⟩ := hm.listE
  cases e
  obtain ⟨_, xc, e, hxc, hdc⟩ := hc.listE
  cases e
  have lm : xm.length = A.length := by rw [hdm.len, movesL_len]
  have lc' : xc.length = A.length := by rw [hdc.len, List.length_map, hR.1]
  refine ⟨_, rfl, m, rfl, ⟨_, .inl (.inl hxm)⟩, fun D nD => ?_⟩
  refine lc_dL (K := K) (a := m) (xs := xm) (S := []) Has.nil (List.replicate A.length (some (PyData.list []))) nD (.inl (.inl hxm)) (by rw [List.length_replicate, lm]) (by rw [lm]; exact small4 (by omega)) (fun x => rfl) ?_ ?_
  · intro i x o H' hxi ho s' hS Qt qt
    rw [List.getElem?_replicate] at ho
    split at ho
    · cases ho
      unfold tYes
      dsimp only
      rw [if_pos (show true = true from rfl)]
      refine ⟨Nat.zero_le _, fun p np => ?_⟩
      exact qt _ _ (same_upd np) (.lst (by rw [rs_out (hS.out np), upd_same]) .nil)
    · cases ho
  · intro H1 s1 hD1 hd1
    rw [rs_nil, nils] at hd1
    obtain ⟨_, ys, e, hys, hy⟩ := hd1.listE
    cases e
    have lys : ys.length = A.length := by rw [hy.len, List.length_map, List.length_replicate]
    have hyo := nils_off hys (fun e => by rw [e] at lys; simp at lys; omega) hy
    refine ⟨_, rfl, _, rfl, rfl, m, c, _, _, rfl, .inl (.inl (s1 _ _ hxm)), .inl (.inl (s1 _ _ hxc)), ?_⟩
    have r0 : RowsH A.length (List.replicate A.length ([] : List Nat)) (fun s k => bitsUp A z (prs A z t) 0 0 s k) := ⟨List.length_replicate, fun i L hL => by
      rw [List.getElem?_replicate] at hL
      split at hL
      · cases hL
        exact IsH.nil.congr fun k => by
          show 0 = bitsUp A z (prs A z t) 0 0 i k
          unfold bitsUp
          rw [if_neg (by decide), if_neg (by decide), cB_zero, cB_zero]
      · cases hL⟩
    refine for_it (walk_zl (K := K) (a := m) (b := c) (xs := xm) (ys := xc) (by rw [lm, lc'])) (fun i σ H4 => ∃ v3 v4 v6 v7 : Option V, σ = [some (.ref m), some (.ref c), some (.ref D), v3, v4, none, v6, v7] ∧ Same H H4 ∧ ∃ ys Ms, H4 D = some (.lst ys) ∧ DtA (rs [D] H4) ys (Ms.map rowN) ∧ RowsH A.length Ms (fun s k => bitsUp A z (prs A z t) i 0 s k))
      ⟨none, none, none, none, rfl, s1, ys, _, hys, hyo, r0⟩ (fun i σ H4 _ ⟨_, _, _, _, _, s4, _⟩ => ⟨.inl (.inl (s4 _ _ hxm)), .inl (.inl (s4 _ _ hxc))⟩) ?_ ?_
    · rintro i x σ H4 H5 hi ⟨v3, v4, v6, v7, rfl, s4, ys, Ms, hD4, hy4, hM4⟩ ⟨T1, x1, y1, rfl, nT, rfl, e1, e2⟩
      dsimp only at e1 e2
      rw [lm] at hi
      -- the row of a state and its counts
      obtain ⟨d1, ed1, D1⟩ := hdm.got e1
      rw [movesL_get hi] at ed1
      cases ed1
      obtain ⟨b, us, rfl, hb, hu⟩ := D1.listE
      obtain ⟨d2, ed2, D2⟩ := hdc.got e2
      rw [List.getElem?_map] at ed2
      obtain ⟨L, hL, rfl⟩ := Option.map_eq_some_iff.mp ed2
      obtain ⟨r, rfl, hr⟩ := Dt.intsE (ns := nI L) D2
      have hIL := hR.2 i L hL
      have hLs : L.length ≤ 401 := hIL.short fun k hk' => cS_big A z (by omega)
      refine ⟨T1, _, rfl, .inl (.inl upd_same), rfl, _, _, rfl, _, _, rfl, rfl, ?_⟩
      have sT := same_upd (o := .tup [V.ref b, V.ref r]) nT
      generalize upd H4 T1 (.tup [V.ref b, V.ref r]) = H5 at *
      have s5 := s4.trans sT
      have lu : us.length = 2 := hu.len
      refine ⟨_, rfl, b, rfl, ⟨_, .inl (.inl (s5 _ _ hb))⟩, for_list (K := K) (a := b) (xs := us) (fun j σ H6 => ∃ v6 v7 : Option V, σ = [some (.ref m), some (.ref c), some (.ref D), some (.ref b), some (.ref r), none, v6, v7] ∧ Same H H6 ∧ ∃ ys Ms, H6 D = some (.lst ys) ∧ DtA (rs [D] H6) ys (Ms.map rowN) ∧ RowsH A.length Ms (fun s k => bitsUp A z (prs A z t) i j s k))
        ⟨v6, v7, rfl, s5, ys, Ms, sT _ _ hD4, hy4.same (rs_same sT), hM4⟩ (fun j σ H6 _ ⟨_, _, _, s6, _⟩ => .inl (.inl (s6 _ _ hb))) ?_ ?_⟩
      · rintro j x σ H6 hx ⟨v6, v7, rfl, s6, ys, Ms, hD6, hy6, hM6⟩
        have hj : j < 2 := by rw [← lu]; exact (List.getElem?_eq_some_iff.mp hx).1
        obtain ⟨dx, edx, Dx⟩ := hu.got hx
        obtain rfl : dx = pairP (stepS A z i (j == 1)) := by
          have : j = 0 ∨ j = 1 := by omega
          rcases this with rfl | rfl <;> (cases edx; rfl)
        obtain ⟨tp, ts, rfl, htp, hts⟩ := Dx.tupE
        obtain ⟨hs, he⟩ := stepS_lt hk hi (j == 1)
        have hstep := bitsUp_step A z (prs A z t) i j
        generalize stepS A z i (j == 1) = st at *
        obtain rfl : ts = [V.int ((st.1 : Nat) : Int), V.int ((st.2 : Nat) : Int)] := by
          cases hts with
          | cons a1 hts => cases hts with
            | cons a2 hts =>
              cases hts
              cases a1
              cases a2
              rfl
        refine ⟨tp, _, rfl, .inl (.inl (s6 _ _ htp)), rfl, _, _, rfl, _, _, rfl, rfl, ?_⟩
        -- the row that is added to
        obtain ⟨M, hM, hIM⟩ := hM6.get hs
        obtain ⟨v, hv, Dv⟩ := hy6.get (show (Ms.map rowN)[st.1]? = some (rowN M) by rw [List.getElem?_map, hM]; rfl)
        obtain ⟨ra, rfl, hra⟩ := Dt.intsE (ns := nI M) Dv
        obtain ⟨nra, hra6⟩ := rs_some hra
        have hMs : M.length ≤ 802 := hIM.short fun k hk' => by
          show bitsUp A z (prs A z t) i j st.1 k = 0
          unfold bitsUp
          rw [cB_big A z false (by omega), cB_big A z true (by omega)]
        have lys : ys.length = A.length := by rw [hy6.len, List.length_map, hM6.1]
        refine ⟨_, rfl, _, rfl, D, _, _, .ref ra, rfl, rfl, .inl (.inl hD6), atI_nat hv, ?_⟩
        -- what is left behind the sum
        have fin : ∀ (H7 : Hp) (p2 : Addr), Same H6 H7 → H7 p2 = some (.lst ((nI (sh st.2 L)).map V.int)) →
            sp_summed K [.ref ra, .ref p2] H7 (fun v H8 => gSub (tVar 2) (tVar 6) L2.rSetL v [some (.ref m), some (.ref c), some (.ref D), some (.ref b), some (.ref r), none, some (.int ((st.1 : Nat) : Int)), some (.int ((st.2 : Nat) : Int))] H8 fun σ' H' => ∃ v6 v7 : Option V, σ' = [some (.ref m), some (.ref c), some (.ref D), some (.ref b), some (.ref r), none, v6, v7] ∧ Same H H' ∧ ∃ ys Ms, H' D = some (.lst ys) ∧ DtA (rs [D] H') ys (Ms.map rowN) ∧ RowsH A.length Ms (fun s k => bitsUp A z (prs A z t) i (j + 1) s k)) E0 := by
          intro H7 p2 s7 hp2
          have hsh : (sh st.2 L).length ≤ 402 := by
            unfold sh
            split
            · exact Nat.zero_le _
            · rw [List.length_append, List.length_replicate]; omega
          refine ⟨ra, p2, M, sh st.2 L, rfl, s7 _ _ hra6, hp2, by omega, by omega, fun H8 p s8 np hp => ?_⟩
          have hD8 := s8 _ _ (s7 _ _ hD6)
          have npD : p ≠ D := (ne_of_none (s7 _ _ hD6) np).symm
          refine ⟨_, rfl, _, rfl, D, ys, _, st.1, rfl, rfl, hD8, ?_, ?_⟩
          · unfold ixN
            rw [if_pos (by omega), if_pos (by omega)]
            rfl
          · refine ⟨_, _, rfl, same_over nD (s6.trans (s7.trans s8)), _, Ms.set st.1 (sm M (sh st.2 L)), upd_same, ?_, ?_⟩
            · rw [rs_upd (List.mem_singleton.mpr rfl), List.map_set]
              refine DtA.set (hy6.same (rs_same (s7.trans s8))) (Dt.ints (ns := nI (sm M (sh st.2 L))) ?_)
              rw [rs_out (fun h => npD (List.mem_singleton.mp h))]
              exact hp
            · refine hM6.set (f := fun s k => bitsUp A z (prs A z t) i j s k) (g := fun s k => bitsUp A z (prs A z t) i (j + 1) s k) ((hIM.sm (hIL.sh st.2)).congr fun k => ?_) fun s hs' k => ?_
              · rw [hstep _ _ hj, if_pos rfl]
              · rw [hstep _ _ hj, if_neg (fun h => hs' h.symm)]
                rfl
        refine ⟨_, rfl, Nat.zero_le _, fun p np => ?_⟩
        obtain ⟨H7, e7, s7, hp7⟩ := fresh (.lst ([] : List V)) np
        rw [e7]
        have hr7 := s7 _ _ (s6 _ _ hr)
        refine neD_lst (ns := nI L) (ms := []) (.inl (.inl hr7)) (.inl (.inl hp7)) ⟨_, rfl, ?_⟩
        by_cases hLn : L = []
        · rw [decide_eq_true (by rw [hLn]; rfl)]
          refine iteF ⟨Nat.zero_le _, fun p2 np2 => ?_⟩
          obtain ⟨H8, e8, s8, hp8⟩ := fresh (.lst ([] : List V)) np2
          rw [e8]
          exact fin H8 p2 (s7.trans s8) (by rw [hp8, hLn]; rfl)
        · rw [decide_eq_false (fun e => hLn (by cases L with | nil => rfl | cons y w => cases e))]
          refine iteT ⟨(by show 1 ≤ sizeLine; decide), fun p1 np1 => ?_⟩
          obtain ⟨H8, e8, s8, hp8⟩ := fresh (.lst [V.int 0]) np1
          rw [e8]
          refine ⟨_, rfl, p1, _, _, rfl, rfl, hp8, by omega, by omega, by rw [Int.toNat_natCast, sizeLine_eq]; show 1 * _ ≤ _; omega, fun p2 np2 => ?_⟩
          rw [Int.toNat_natCast, rep0]
          obtain ⟨H9, e9, s9, hp9⟩ := fresh (.lst ((nI (List.replicate st.2 0)).map V.int)) np2
          rw [e9]
          refine ⟨_, rfl, p2, r, _, _, rfl, rfl, hp9, s9 _ _ (s8 _ _ hr7), by rw [nI_len, nI_len, List.length_replicate, sizeLine_eq]; omega, fun p3 np3 => ?_⟩
          obtain ⟨H10, e10, s10, hp10⟩ := fresh (.lst ((nI (List.replicate st.2 0)).map V.int ++ (nI L).map V.int)) np3
          rw [e10]
          exact fin H10 p3 (((s7.trans s8).trans s9).trans s10) (by rw [hp10]; unfold sh; rw [if_neg hLn]; unfold nI; rw [List.map_append, List.map_append])
      · rintro σ H6 ⟨v6, v7, rfl, s6, ys, Ms, hD6, hy6, hM6⟩
        refine ⟨_, _, _, _, rfl, s6, ys, Ms, hD6, hy6, hM6.congr fun s k => ?_⟩
        rw [lu]
        unfold bitsUp
        rw [if_pos (by decide), if_pos (by decide), if_neg (by decide), if_neg (by decide)]
    · rintro σ H4 ⟨v3, v4, v6, v7, rfl, s4, ys, Ms, hD4, hy4, hM4⟩
      refine ⟨_, rfl, q _ D Ms s4 (.lst hD4 (hy4.same rs_le)) (hM4.congr fun s k => ?_)⟩
      rw [lm, cS_succ hk]
      unfold bitsUp
      rw [if_neg (by decide), if_neg (by decide)]
end
end My

namespace My
open PySem PySem.Spec PyProof.Rows L2 Pre
local macro_rules | `(tactic| walk_at "go") => `(tactic| repeat (first | (with_reducible first | refine iteT ?_ | refine iteF ?_ | refine iteNtt ?_ | refine iteNff ?_ | refine iteET (by omega) ?_ | refine iteEF (by omega) ?_ | refine iteENT (by omega) ?_ | refine iteENF (by omega) ?_ | refine iteDT (by omega) ?_ | refine iteDF (by omega) ?_ | refine iteNT (by omega) ?_ | refine iteNF (by omega) ?_) | refine ⟨_, rfl, ?_⟩ | refine ⟨_, _, rfl, rfl, ?_⟩ | refine ⟨_, _, rfl, ?_⟩ | refine ⟨rfl, ?_⟩ | refine .inl ⟨_, rfl, ?_⟩ | refine .inr ⟨_, rfl, ?_⟩))
local macro_rules | `(tactic| walk_at "b") => `(tactic| try dsimp (config := { proj := false, iota := false, eta := false, zeta := false }) only)
section
variable {P : Program} {w : World} {K : PySem.W.Frag} {mg : Str → Option Value} {base : Heap} [pf : Sup.PF P fileS]
def sp_all_counts : Sp := fun vs H Q _ => ∃ (c : Addr) (A : List Bool) (z : Bool) (t : Nat) (Ls : List (List Nat)), vs = [.ref c] ∧ GoodM A z ∧ t ≤ 401 ∧ Dt H (.ref c) (.list (Ls.map rowN)) ∧ RowsH A.length Ls (cS (prs A z t)) ∧
  ∀ H' p L, Same H H' → H p = none → H' p = some (.lst ((nI L).map V.int)) → IsH L (gC A z t) → Q (.ref p) H'
theorem G_all_counts (T : Top K mg) : FnOk P w K mg base CX0 2 T.f_all_counts T.fd_all_counts ["counts"] sp_all_counts := by
  refine T.F_all_counts.ok sc_all_counts (fun vs H Q E h => by obtain ⟨c, A, z, t, Ls, rfl, _⟩ := h; rfl) (fun cdv A outer s H vs Q E hr h => ?_)
  obtain ⟨c, A, z, t, Ls, rfl, ⟨h1, h2, hk⟩, ht, hc, hR, q⟩ := h
  refine ⟨_, PSs.nox (pss_cons (ps_set (i := 1) sc_all_counts.nd rfl (by first | exact Or.inl rfl | exact Or.inr rfl) (pe_lst pa_nil))
  (pss_cons (ps_for PassesOwn.never rfl (k_piL K rfl (pv 0)) (pg_name (i := 2) sc_all_counts.nd rfl (by first | exact Or.inl rfl | exact Or.inr rfl))
    (pss_one (ps_set (i := 1) sc_all_counts.nd rfl (by first | exact Or.inl rfl | exact Or.inr rfl) (pe_call (G_summed (P := P) T) (hr.mono (by decide)) (by rfl) T.g_summed T.F_summed.kp T.b_summed .nil pass0 (pa_cons (pv 1) (pa_cons (pv 2) pa_nil))))))
  (pss_one (ps_ret (pv 1))))), ?_⟩
  obtain ⟨_, xc, e, hxc, hdc⟩ := hc.listE
  cases e
  have lc' : xc.length = A.length := by rw [hdc.len, List.length_map, hR.1]
  refine ⟨Nat.zero_le _, fun a na => ?_⟩
  obtain ⟨H1, e1, s1, ha1⟩ := fresh (.lst ([] : List V)) na
  rw [e1]
  refine ⟨_, rfl, c, rfl, ⟨_, .inl (.inl (s1 _ _ hxc))⟩, for_list (K := K) (a := c) (xs := xc) (fun i σ H2 => ∃ (b : Addr) (v2 : Option V) (T : List Nat), σ = [some (.ref c), some (.ref b), v2] ∧ Same H H2 ∧ H b = none ∧ H2 b = some (.lst ((nI T).map V.int)) ∧ IsH T (fun k => (prs A z t).countP fun p => decide (p.1 < i ∧ p.2 = k)))
    ⟨a, none, [], rfl, s1, na, ha1, IsH.nil.congr fun k => by
      symm
      rw [List.countP_eq_zero]
      intro p _ h
      exact absurd (of_decide_eq_true h).1 (Nat.not_lt_zero _)⟩ (fun i σ H2 _ ⟨_, _, _, _, s2, _⟩ => .inl (.inl (s2 _ _ hxc))) ?_ ?_⟩
  · rintro i x σ H2 hx ⟨b, v2, T, rfl, s2, nb, hb, hT⟩
    obtain ⟨d2, ed2, D2⟩ := hdc.got hx
    rw [List.getElem?_map] at ed2
    obtain ⟨L, hL, rfl⟩ := Option.map_eq_some_iff.mp ed2
    obtain ⟨r, rfl, hr⟩ := Dt.intsE (ns := nI L) D2
    have hIL := hR.2 i L hL
    have hLs : L.length ≤ 402 := hIL.short fun k hk' => cS_big A z (by omega)
    have hTs : T.length ≤ 402 := hT.short fun k hk' => by
      rw [List.countP_eq_zero]
      intro p hp h
      have := prs_small A z t p hp
      have := (of_decide_eq_true h).2
      omega
    refine ⟨_, rfl, _, rfl, b, r, T, L, rfl, hb, s2 _ _ hr, by omega, by omega, fun H3 p s3 np hp => ?_⟩
    exact ⟨p, _, sm T L, rfl, s2.trans s3, s2.free np, hp, (hT.sm hIL).congr fun k => (cS_all _ k i).symm⟩
  · rintro σ H2 ⟨b, v2, T, rfl, s2, nb, hb, hT⟩
    rw [lc'] at hT
    exact ⟨_, rfl, q _ b T s2 nb hb (hT.congr fun k => gC_all hk t k)⟩
def sp_growths (K : PySem.W.Frag) (C B : Addr) : Sp := fun vs H Q E => ∃ v u : V, vs = [v, u] ∧ MN K H 60 C B v u E fun A z n => ∀ H' p L, Same H H' → H p = none → H' p = some (.lst ((nI L).map V.int)) → IsH L (gC A z n) → Q (.ref p) H'
theorem G_growths (T : Top K mg) : FnOk P w K mg base (L2.CX P w) 6 T.f_growths T.fd_growths ["mark", "many"] (sp_growths K T.C_InvalidMark T.C_InvalidNumber) := by
  refine T.F_growths.ok (CX := L2.CX P w) sc_growths (fun vs H Q E h => by obtain ⟨v, u, rfl, _⟩ := h; rfl) (fun cdv A outer s H vs Q E hr h => ?_)
  obtain ⟨v, u, rfl, h⟩ := h
  refine ⟨_, (pss_cons (ps_expr (pe_call (G_check_keepable (P := P) T) (hr.mono (by decide)) (by rfl) T.g_check_keepable T.F_check_keepable.kp T.b_check_keepable .nil (passes_call (takes_of rfl rfl rfl rfl) (fun _ _ _ _ h => h)) (pa_cons (pv 0) pa_nil)))
  (pss_cons (ps_expr (pe_call (G_check_number (P := P) T) (hr.mono (by decide)) (by rfl) T.g_check_number T.F_check_number.kp T.b_check_number .nil (passes_call (takes_of rfl rfl rfl rfl) (fun _ _ _ _ h => h)) (pa_cons (pv 1) (pa_cons pe_int (pa_cons (pe_glob (v := .int 60) rfl T.m_MOST_LIST ⟨_, rfl⟩) pa_nil)))))
  (pss_cons (ps_set (i := 2) sc_growths.nd rfl (by first | exact Or.inl rfl | exact Or.inr rfl) (pe_call (G_moves_by (P := P) T) (hr.mono (by decide)) (by rfl) T.g_moves_by T.F_moves_by.kp T.b_moves_by .nil pass0 (pa_cons (pv 0) pa_nil)))
  (pss_cons (ps_set (i := 3) sc_growths.nd rfl (by first | exact Or.inl rfl | exact Or.inr rfl) (pe_call (G_first_counts (P := P) T) (hr.mono (by decide)) (by rfl) T.g_first_counts T.F_first_counts.kp T.b_first_counts .nil pass0 (pa_cons (pv 2) pa_nil)))
  (pss_cons (ps_for (passes_of rfl) rfl (pi_range1 (by rfl) T.n_range (pa_cons (pv 1) pa_nil)) (pg_name (i := 4) sc_growths.nd rfl (by first | exact Or.inl rfl | exact Or.inr rfl))
    (pss_one (ps_set (i := 3) sc_growths.nd rfl (by first | exact Or.inl rfl | exact Or.inr rfl) (pe_call (G_counts_by (P := P) T) (hr.mono (by decide)) (by rfl) T.g_counts_by T.F_counts_by.kp T.b_counts_by .nil pass0 (pa_cons (pv 2) (pa_cons (pv 3) pa_nil))))))
  (pss_one (ps_ret (pe_call (G_all_counts (P := P) T) (hr.mono (by decide)) (by rfl) T.g_all_counts T.F_all_counts.kp T.b_all_counts .nil pass0 (pa_cons (pv 3) pa_nil))))))))), ?_⟩
  rcases h with ⟨A, z, rfl, h1, h2, hk, ⟨n, rfl, hn, q⟩ | ⟨hu, q⟩⟩ | ⟨hv, q⟩
  · have hg : GoodM A z := ⟨h1, h2, hk⟩
    refine ⟨_, rfl, _, rfl, .inl ⟨A, z, rfl, h1, h2, hk, fun H1 s1 => ?_⟩⟩
    refine ⟨_, rfl, _, 0, some 60, true, rfl, NumV.nat hn, fun _ => ?_, fun z => nomatch z⟩
    refine ⟨_, rfl, A, z, rfl, hg, fun H2 m s2 nm hm => ?_⟩
    refine ⟨_, rfl, m, movesL A z, rfl, hm, by rw [movesL_len]; exact h1, by rw [movesL_len]; omega, fun H3 c s3 hc => ?_⟩
    rw [movesL_len] at hc
    have hm3 := hm.same s3
    refine ⟨_, rfl, _, rfl, by omega, by omega, ?_⟩
    rw [Int.toNat_natCast]
    refine for_range (lo := 0) (n := n) (fun i σ H4 => ∃ (d : Addr) (v4 : Option V) (Ls : List (List Nat)), σ = [some (.str (bS (A ++ [z]))), some (.int n), some (.ref m), some (.ref d), v4] ∧ Same H3 H4 ∧ Dt H4 (.ref d) (.list (Ls.map rowN)) ∧ RowsH A.length Ls (cS (prs A z i))) ⟨c, none, _, rfl, Same.refl _, hc, firsts A z h1⟩ ?_ ?_
    · rintro i σ H4 hi ⟨d, v4, Ls, rfl, s4, hd, hR⟩
      refine ⟨_, rfl, _, rfl, m, d, A, z, i, Ls, rfl, hg, by omega, hm3.same s4, hd, hR, fun H5 p Ms s5 hp hM => ?_⟩
      exact ⟨p, _, Ms, rfl, s4.trans s5, hp, hM⟩
    · rintro σ H4 ⟨d, v4, Ls, rfl, s4, hd, hR⟩
      refine ⟨_, rfl, d, A, z, n, Ls, rfl, hg, by omega, hd, hR, fun H5 p L s5 np hp hL => ?_⟩
      have s14 := ((s1.trans s2).trans s3).trans s4
      exact q _ p L (s14.trans s5) (s14.free np) hp hL
  · refine ⟨_, rfl, _, rfl, .inl ⟨A, z, rfl, h1, h2, hk, fun H1 s1 => ?_⟩⟩
    exact ⟨_, rfl, u, 0, some 60, false, rfl, hu.same s1, (fun z => nomatch z), fun _ d nd => q H1 d s1 nd⟩
  · exact ⟨_, rfl, _, rfl, .inr ⟨hv, fun H' d s nd => q H' d s nd⟩⟩
end
end My

namespace My
open PySem PySem.Spec PyProof.Rows L2 Pre
/-! ### growth summed, in a program -/
/-- a row of counts told by a function -/
def rowF (n : Nat) (f : Nat → Nat) : List V := (nI ((List.range n).map f)).map V.int
theorem rowF_len (n : Nat) (f : Nat → Nat) : (rowF n f).length = n := by unfold rowF; rw [nI_len, List.length_map, List.length_range]
theorem rowF_get {n : Nat} (f : Nat → Nat) {i : Nat} (h : i < n) : (rowF n f)[i]? = some (.int ((f i : Nat) : Int)) := by
  unfold rowF
  exact nI_get (by rw [List.getElem?_map, List.getElem?_range h]; rfl)
theorem rowF_ext {n : Nat} {f : Nat → Nat} {xs : List V} (hl : xs.length = n) (h : ∀ i, i < n → xs[i]? = some (.int ((f i : Nat) : Int))) : xs = rowF n f := by
  refine List.ext_getElem? fun i => ?_
  by_cases hi : i < n
  · rw [h i hi, rowF_get f hi]
  · rw [List.getElem?_eq_none (by omega), List.getElem?_eq_none (by rw [rowF_len]; omega)]
theorem rowF_set {n s v : Nat} {f g : Nat → Nat} (hs : s < n) (e1 : g s = v) (e2 : ∀ i, i ≠ s → f i = g i) : (rowF n f).set s (.int ((v : Nat) : Int)) = rowF n g := by
  refine rowF_ext (by rw [List.length_set, rowF_len]) fun i hi => ?_
  rw [List.getElem?_set]
  by_cases c : s = i
  · subst c
    rw [if_pos rfl, if_pos (by rw [rowF_len]; exact hs), e1]
  · rw [if_neg c, rowF_get f hi, e2 i fun h => c h.symm]
theorem rowF_congr {n : Nat} {f g : Nat → Nat} (e : ∀ i, f i = g i) : rowF n f = rowF n g := by rw [show f = g from funext e]
theorem rowF_zero (n : Nat) : (nI (List.replicate n 0)).map V.int = rowF n fun _ => 0 := rowF_ext (by rw [nI_len, List.length_replicate]) fun i hi => nI_get (by rw [List.getElem?_replicate, if_pos hi])
theorem rowF_first (A : List Bool) (z : Bool) {n : Nat} (h : 1 ≤ n) : [V.int 1] ++ (nI (List.replicate (n - 1) 0)).map V.int = rowF n (cN (prs A z 0)) := by
  refine rowF_ext (by rw [List.length_append, nI_len, List.length_replicate]; show 1 + _ = _; omega) fun i hi => ?_
  rw [prs_zero]
  cases i with
  | zero => rfl
  | succ i =>
    show ((nI (List.replicate (n - 1) 0)).map V.int)[i]? = _
    rw [nI_get (n := 0) (by rw [List.getElem?_replicate, if_pos (by omega)])]
    rfl
theorem rowF_firstS (A : List Bool) (z : Bool) (n : Nat) : (rowF n fun _ => 0) = rowF n (sN (prs A z 0)) := by
  rw [prs_zero]
  refine rowF_congr fun i => ?_
  unfold sN wS
  cases i <;> rfl
/-- the bits up to one done: rows and their growth -/
def cUp (A : List Bool) (z : Bool) (P : List (Nat × Nat)) (i j s : Nat) : Nat := cNb A z false P (if 1 ≤ j then i + 1 else i) s + cNb A z true P (if 2 ≤ j then i + 1 else i) s
def sUp (A : List Bool) (z : Bool) (P : List (Nat × Nat)) (i j s : Nat) : Nat := sNb A z false P (if 1 ≤ j then i + 1 else i) s + sNb A z true P (if 2 ≤ j then i + 1 else i) s
theorem cUp_step (A : List Bool) (z : Bool) (P : List (Nat × Nat)) (i j s : Nat) (hj : j < 2) : cUp A z P i (j + 1) s = cUp A z P i j s + if (stepS A z i (j == 1)).1 = s then cN P i else 0 := by
  unfold cUp
  have : j = 0 ∨ j = 1 := by omega
  rcases this with rfl | rfl
  · rw [show ((0 : Nat) == 1) = false from rfl, if_pos (by decide), if_neg (by decide), if_neg (by decide), if_neg (by decide), cNb_succ]
    omega
  · rw [show ((1 : Nat) == 1) = true from rfl, if_pos (by decide), if_pos (by decide), if_pos (by decide), if_neg (by decide), cNb_succ (b := true)]
    omega
theorem sUp_step (A : List Bool) (z : Bool) (P : List (Nat × Nat)) (i j s : Nat) (hj : j < 2) : sUp A z P i (j + 1) s = sUp A z P i j s + if (stepS A z i (j == 1)).1 = s then sN P i + (stepS A z i (j == 1)).2 * cN P i else 0 := by
  unfold sUp
  have : j = 0 ∨ j = 1 := by omega
  rcases this with rfl | rfl
  · rw [show ((0 : Nat) == 1) = false from rfl, if_pos (by decide), if_neg (by decide), if_neg (by decide), if_neg (by decide), sNb_succ]
    omega
  · rw [show ((1 : Nat) == 1) = true from rfl, if_pos (by decide), if_pos (by decide), if_pos (by decide), if_neg (by decide), sNb_succ (b := true)]
    omega
theorem nI_sum : ∀ l : List Nat, (nI l).sum = ((l.sum : Nat) : Int)
  | [] => rfl
  | x :: r => by
    show (x : Int) + (nI r).sum = ((x + r.sum : Nat) : Int)
    rw [nI_sum r, Int.natCast_add]
local macro_rules | `(tactic| walk_at "go") => `(tactic| repeat (first | (with_reducible first | refine iteT ?_ | refine iteF ?_ | refine iteNtt ?_ | refine iteNff ?_ | refine iteET (by omega) ?_ | refine iteEF (by omega) ?_ | refine iteENT (by omega) ?_ | refine iteENF (by omega) ?_ | refine iteDT (by omega) ?_ | refine iteDF (by omega) ?_ | refine iteNT (by omega) ?_ | refine iteNF (by omega) ?_) | refine ⟨_, rfl, ?_⟩ | refine ⟨_, _, rfl, rfl, ?_⟩ | refine ⟨_, _, rfl, ?_⟩ | refine ⟨rfl, ?_⟩ | refine .inl ⟨_, rfl, ?_⟩ | refine .inr ⟨_, rfl, ?_⟩))
local macro_rules | `(tactic| walk_at "b") => `(tactic| try dsimp (config := { proj := false, iota := false, eta := false, zeta := false }) only)
section
variable {P : Program} {w : World} {K : PySem.W.Frag} {mg : Str → Option Value} {base : Heap} [pf : Sup.PF P fileS]
def sp_sum_growth (K : PySem.W.Frag) (C B : Addr) : Sp := fun vs H Q E => ∃ v u : V, vs = [v, u] ∧ MN K H 300 C B v u E fun A z n => ∀ H', Same H H' → Q (.int (sG A z n)) H'
theorem G_sum_growth (T : Top K mg) : FnOk P w K mg base (L2.CX P w) 6 T.f_sum_growth T.fd_sum_growth ["mark", "many"] (sp_sum_growth K T.C_InvalidMark T.C_InvalidNumber) := by
  refine T.F_sum_growth.ok (CX := L2.CX P w) sc_sum_growth (fun vs H Q E h => by obtain ⟨v, u, rfl, _⟩ := h; rfl) (fun cdv A outer s H vs Q E hr h => ?_)
  obtain ⟨v, u, rfl, h⟩ := h
  refine ⟨_, (pss_cons (ps_expr (pe_call (G_check_keepable (P := P) T) (hr.mono (by decide)) (by rfl) T.g_check_keepable T.F_check_keepable.kp T.b_check_keepable .nil (passes_call (takes_of rfl rfl rfl rfl) (fun _ _ _ _ h => h)) (pa_cons (pv 0) pa_nil)))
  (pss_cons (ps_expr (pe_call (G_check_number (P := P) T) (hr.mono (by decide)) (by rfl) T.g_check_number T.F_check_number.kp T.b_check_number .nil (passes_call (takes_of rfl rfl rfl rfl) (fun _ _ _ _ h => h)) (pa_cons (pv 1) (pa_cons pe_int (pa_cons (pe_glob (v := .int 300) rfl T.m_MOST_SUM ⟨_, rfl⟩) pa_nil)))))
  (pss_cons (ps_set (i := 2) sc_sum_growth.nd rfl (by first | exact Or.inl rfl | exact Or.inr rfl) (pe_call (G_moves_by (P := P) T) (hr.mono (by decide)) (by rfl) T.g_moves_by T.F_moves_by.kp T.b_moves_by .nil pass0 (pa_cons (pv 0) pa_nil)))
  (pss_cons (ps_par (by rfl) sc_sum_growth.nd (i := 4) (j := 5) rfl rfl (by decide) rfl rfl (pa_cons (pe_op op_cat (pe_lst (pa_cons pe_int pa_nil)) (pe_op op_rep (pe_lst (pa_cons pe_int pa_nil)) (pe_op op_sub (pe_callB (k_len K rfl) (by rfl) T.n_len (by decide +kernel) (pa_cons (pv 2) pa_nil)) pe_int))) (pa_cons (pe_op op_rep (pe_lst (pa_cons pe_int pa_nil)) (pe_callB (k_len K rfl) (by rfl) T.n_len (by decide +kernel) (pa_cons (pv 2) pa_nil))) pa_nil)) (by rfl))
  (pss_cons (ps_for (passes_of rfl) rfl (pi_range1 (by rfl) T.n_range (pa_cons (pv 1) pa_nil)) (pg_name (i := 3) sc_sum_growth.nd rfl (by first | exact Or.inl rfl | exact Or.inr rfl))
    (pss_cons (ps_par (by rfl) sc_sum_growth.nd (i := 6) (j := 7) rfl rfl (by decide) rfl rfl (pa_cons (pe_op op_rep (pe_lst (pa_cons pe_int pa_nil)) (pe_callB (k_len K rfl) (by rfl) T.n_len (by decide +kernel) (pa_cons (pv 2) pa_nil))) (pa_cons (pe_op op_rep (pe_lst (pa_cons pe_int pa_nil)) (pe_callB (k_len K rfl) (by rfl) T.n_len (by decide +kernel) (pa_cons (pv 2) pa_nil))) pa_nil)) (by rfl))
  (pss_cons (ps_for (passes_of rfl) rfl (k_piE K rfl (by rfl) T.n_enumerate (pa_cons (pv 2) pa_nil)) (k_pgT K rfl (by rfl) (pgs_cons (pg_name (i := 8) sc_sum_growth.nd rfl (by first | exact Or.inl rfl | exact Or.inr rfl)) (pgs_cons (pg_name (i := 9) sc_sum_growth.nd rfl (by first | exact Or.inl rfl | exact Or.inr rfl)) pgs_nil)))
    (pss_one (ps_for (passes_of rfl) rfl (k_piL K rfl (pv 9)) (k_pgT K rfl (by rfl) (pgs_cons (pg_name (i := 10) sc_sum_growth.nd rfl (by first | exact Or.inl rfl | exact Or.inr rfl)) (pgs_cons (pg_name (i := 11) sc_sum_growth.nd rfl (by first | exact Or.inl rfl | exact Or.inr rfl)) pgs_nil)))
    (pss_cons (ps_asg (pe_op op_add (pe_ix (k_ixL K rfl) (pv 6) (pv 10) (fun _ _ => rfl)) (pe_ix (k_ixL K rfl) (pv 4) (pv 8) (fun _ _ => rfl))) (pg_sub (pv 6) (pv 10) set_list))
  (pss_one (ps_asg (pe_op op_add (pe_op op_add (pe_ix (k_ixL K rfl) (pv 7) (pv 10) (fun _ _ => rfl)) (pe_ix (k_ixL K rfl) (pv 5) (pv 8) (fun _ _ => rfl))) (pe_op op_mul (pv 11) (pe_ix (k_ixL K rfl) (pv 4) (pv 8) (fun _ _ => rfl)))) (pg_sub (pv 7) (pv 10) set_list)))))))
  (pss_one (ps_par (by rfl) sc_sum_growth.nd (i := 4) (j := 5) rfl rfl (by decide) rfl rfl (pa_cons (pv 6) (pa_cons (pv 7) pa_nil)) (by rfl))))))
  (pss_one (ps_ret (pe_callB (k_sum K rfl rfl) (by rfl) T.n_sum (by decide +kernel) (pa_cons (pv 5) pa_nil))))))))), ?_⟩
  rcases h with ⟨A, z, rfl, h1, h2, hk, ⟨n, rfl, hn, q⟩ | ⟨hu, q⟩⟩ | ⟨hv, q⟩
  · have hg : GoodM A z := ⟨h1, h2, hk⟩
    refine ⟨_, rfl, _, rfl, .inl ⟨A, z, rfl, h1, h2, hk, fun H1 s1 => ?_⟩⟩
    refine ⟨_, rfl, _, 0, some 300, true, rfl, NumV.nat hn, fun _ => ?_, fun z => nomatch z⟩
    refine ⟨_, rfl, A, z, rfl, hg, fun H2 m s2 nm hm => ?_⟩
    obtain ⟨_, xm, e, hxm, hdm⟩ := hm.listE
    cases e
    have lm : xm.length = A.length := by rw [hdm.len, movesL_len]
    refine ⟨(by show 1 ≤ sizeLine; decide), fun p1 np1 => ?_⟩
    obtain ⟨H3, e3, s3, hp1⟩ := fresh (.lst [V.int 1]) np1
    rw [e3]
    refine ⟨(by show 1 ≤ sizeLine; decide), fun p2 np2 => ?_⟩
    obtain ⟨H4, e4, s4, hp2⟩ := fresh (.lst [V.int 0]) np2
    rw [e4]
    refine ⟨_, rfl, m, _, rfl, .inl (.inl (.inl (s4 _ _ (s3 _ _ hxm)))), _, _, rfl, rfl, ?_⟩
    dsimp only
    rw [lm, show (((A.length : Nat) : Int) - 1) = ((A.length - 1 : Nat) : Int) by omega]
    refine ⟨p2, _, _, rfl, rfl, hp2, by omega, by omega, by rw [Int.toNat_natCast, sizeLine_eq]; show 1 * _ ≤ _; omega, fun p3 np3 => ?_⟩
    rw [Int.toNat_natCast, rep0]
    obtain ⟨H5, e5, s5, hp3⟩ := fresh (.lst ((nI (List.replicate (A.length - 1) 0)).map V.int)) np3
    rw [e5]
    refine ⟨p1, p3, _, _, rfl, rfl, s5 _ _ (s4 _ _ hp1), hp3, by rw [nI_len, List.length_replicate, sizeLine_eq]; show 1 + _ ≤ _; omega, fun p4 np4 => ?_⟩
    rw [rowF_first A z h1]
    obtain ⟨H6, e6, s6, hp4⟩ := fresh (.lst (rowF A.length (cN (prs A z 0)))) np4
    rw [e6]
    refine ⟨(by show 1 ≤ sizeLine; decide), fun p5 np5 => ?_⟩
    obtain ⟨H7, e7, s7, hp5⟩ := fresh (.lst [V.int 0]) np5
    rw [e7]
    have hxm7 : H7 m = some (.lst xm) := s7 _ _ (s6 _ _ (s5 _ _ (s4 _ _ (s3 _ _ hxm))))
    refine ⟨_, rfl, m, _, rfl, .inl (.inl (.inl hxm7)), ?_⟩
    rw [lm]
    refine ⟨p5, _, _, rfl, rfl, hp5, by omega, by omega, by rw [Int.toNat_natCast, sizeLine_eq]; show 1 * _ ≤ _; omega, fun p6 np6 => ?_⟩
    rw [Int.toNat_natCast, rep0, rowF_zero, rowF_firstS A z]
    obtain ⟨H8, e8, s8, hp6⟩ := fresh (.lst (rowF A.length (sN (prs A z 0)))) np6
    rw [e8]
    have hm8 : Dt H8 (.ref m) (.list (movesL A z)) := hm.same (((((s3.trans s4).trans s5).trans s6).trans s7).trans s8)
    refine ⟨_, _, rfl, ?_⟩
    refine ⟨_, rfl, _, rfl, by omega, by omega, ?_⟩
    rw [Int.toNat_natCast]
    refine for_range (lo := 0) (n := n) (fun t σ HA => ∃ (c u : Addr) (v3 v6 v7 v8 v9 v10 v11 : Option V), σ = [some (.str (bS (A ++ [z]))), some (.int n), some (.ref m), v3, some (.ref c), some (.ref u), v6, v7, v8, v9, v10, v11] ∧ Same H8 HA ∧ HA c = some (.lst (rowF A.length (cN (prs A z t)))) ∧ HA u = some (.lst (rowF A.length (sN (prs A z t)))))
      ⟨p4, p6, none, none, none, none, none, none, none, rfl, Same.refl _, s8 _ _ (s7 _ _ hp4), hp6⟩ ?_ ?_
    · rintro t σ HA ht ⟨c, u, v3, v6, v7, v8, v9, v10, v11, rfl, sA, hc, hu⟩
      have hxA := sA _ _ (s8 _ _ hxm7)
      refine ⟨(by show 1 ≤ sizeLine; decide), fun q1 nq1 => ?_⟩
      obtain ⟨HB, eB, sB, hq1⟩ := fresh (.lst [V.int 0]) nq1
      rw [eB]
      refine ⟨_, rfl, m, _, rfl, .inl (.inl (.inl (sB _ _ hxA))), ?_⟩
      rw [lm]
      refine ⟨q1, _, _, rfl, rfl, hq1, by omega, by omega, by rw [Int.toNat_natCast, sizeLine_eq]; show 1 * _ ≤ _; omega, fun l nl => ?_⟩
      rw [Int.toNat_natCast, rep0, rowF_zero]
      obtain ⟨HC, eC, sC, hlC⟩ := fresh (.lst (rowF A.length fun _ => 0)) nl
      rw [eC]
      refine ⟨(by show 1 ≤ sizeLine; decide), fun q2 nq2 => ?_⟩
      obtain ⟨HD, eD, sD, hq2⟩ := fresh (.lst [V.int 0]) nq2
      rw [eD]
      refine ⟨_, rfl, m, _, rfl, .inl (.inl (.inl (sD _ _ (sC _ _ (sB _ _ hxA))))), ?_⟩
      rw [lm]
      refine ⟨q2, _, _, rfl, rfl, hq2, by omega, by omega, by rw [Int.toNat_natCast, sizeLine_eq]; show 1 * _ ≤ _; omega, fun ms nms => ?_⟩
      rw [Int.toNat_natCast, rep0, rowF_zero]
      obtain ⟨HE, eE, sE, hms⟩ := fresh (.lst (rowF A.length fun _ => 0)) nms
      rw [eE]
      have hl : HE l = some (.lst (rowF A.length fun _ => 0)) := sE _ _ (sD _ _ hlC)
      have lms : l ≠ ms := ne_of_none (sD _ _ hlC) nms
      have nlA : HA l = none := sB.free nl
      have nmA : HA ms = none := ((sB.trans sC).trans sD).free nms
      have sAE : Same HA HE := ((sB.trans sC).trans sD).trans sE
      refine ⟨_, _, rfl, ?_⟩
      refine ⟨_, rfl, m, xm, rfl, .inl (.inl (sAE _ _ hxA)), ?_⟩
      refine for_it (walk_enum (K := K) (a := m) (xs := xm)) (fun i σ HF => ∃ v8 v9 v10 v11 : Option V, σ = [some (.str (bS (A ++ [z]))), some (.int n), some (.ref m), some (.int (0 + (t : Int))), some (.ref c), some (.ref u), some (.ref l), some (.ref ms), v8, v9, v10, v11] ∧ Same HA HF ∧ HF l = some (.lst (rowF A.length (cUp A z (prs A z t) i 0))) ∧ HF ms = some (.lst (rowF A.length (sUp A z (prs A z t) i 0))))
        ⟨v8, v9, v10, v11, rfl, sAE, by rw [hl]; exact congrArg (fun r => some (HO.lst r)) (rowF_congr fun s => by unfold cUp; rw [if_neg (by decide), if_neg (by decide), cNb_zero, cNb_zero]), by rw [hms]; exact congrArg (fun r => some (HO.lst r)) (rowF_congr fun s => by unfold sUp; rw [if_neg (by decide), if_neg (by decide), sNb_zero, sNb_zero])⟩ (fun i σ HF _ ⟨_, _, _, _, _, sF, _⟩ => .inl (.inl (sF _ _ hxA))) ?_ ?_
      · rintro i x σ HF HG hi ⟨v8, v9, v10, v11, rfl, sF, hlF, hmF⟩ ⟨T1, x1, y1, rfl, nT, rfl, e1, e2⟩
        cases e1
        dsimp only at e2
        rw [lm] at hi
        obtain ⟨d1, ed1, D1⟩ := hdm.got e2
        rw [movesL_get hi] at ed1
        cases ed1
        obtain ⟨b, us, rfl, hb, hu2⟩ := D1.listE
        have lu : us.length = 2 := hu2.len
        refine ⟨T1, _, rfl, .inl (.inl upd_same), rfl, _, _, rfl, _, _, rfl, rfl, ?_⟩
        have sT := same_upd (o := .tup [V.int ((i : Nat) : Int), V.ref b]) nT
        generalize upd HF T1 (.tup [V.int ((i : Nat) : Int), V.ref b]) = HG at *
        have sHA : Same H2 HA := ((((((s3.trans s4).trans s5).trans s6).trans s7).trans s8)).trans sA
        have hbA := sHA _ _ hb
        refine ⟨_, rfl, b, rfl, ⟨_, .inl (.inl ((sF.trans sT) _ _ hbA))⟩, for_list (K := K) (a := b) (xs := us) (fun j σ HH => ∃ v10 v11 : Option V, σ = [some (.str (bS (A ++ [z]))), some (.int n), some (.ref m), some (.int (0 + (t : Int))), some (.ref c), some (.ref u), some (.ref l), some (.ref ms), some (.int ((i : Nat) : Int)), some (.ref b), v10, v11] ∧ Same HA HH ∧ HH l = some (.lst (rowF A.length (cUp A z (prs A z t) i j))) ∧ HH ms = some (.lst (rowF A.length (sUp A z (prs A z t) i j))))
          ⟨v10, v11, rfl, sF.trans sT, sT _ _ hlF, sT _ _ hmF⟩ (fun j σ HH _ ⟨_, _, _, sH, _⟩ => .inl (.inl (sH _ _ hbA))) ?_ ?_⟩
        · rintro j x σ HH hx ⟨v10, v11, rfl, sH, hlH, hmH⟩
          have hj : j < 2 := by rw [← lu]; exact (List.getElem?_eq_some_iff.mp hx).1
          obtain ⟨dx, edx, Dx⟩ := hu2.got hx
          obtain rfl : dx = pairP (stepS A z i (j == 1)) := by
            have : j = 0 ∨ j = 1 := by omega
            rcases this with rfl | rfl <;> (cases edx; rfl)
          obtain ⟨tp, ts, rfl, htp, hts⟩ := Dx.tupE
          obtain ⟨hs, he⟩ := stepS_lt hk hi (j == 1)
          have hc1 := fun s => cUp_step A z (prs A z t) i j s hj
          have hc2 := fun s => sUp_step A z (prs A z t) i j s hj
          generalize stepS A z i (j == 1) = st at *
          obtain rfl : ts = [V.int ((st.1 : Nat) : Int), V.int ((st.2 : Nat) : Int)] := by
            cases hts with
            | cons a1 hts => cases hts with
              | cons a2 hts =>
                cases hts
                cases a1
                cases a2
                rfl
          refine ⟨tp, _, rfl, .inl (.inl (sH _ _ (sHA _ _ htp))), rfl, _, _, rfl, _, _, rfl, rfl, ?_⟩
          refine ⟨_, rfl, _, rfl, l, _, _, _, rfl, rfl, .inl (.inl hlH), atI_nat (rowF_get _ hs), _, rfl, _, rfl, c, _, _, _, rfl, rfl, .inl (.inl (sH _ _ hc)), atI_nat (rowF_get _ hi), _, _, rfl, rfl, ?_⟩
          refine ⟨_, rfl, _, rfl, l, _, _, st.1, rfl, rfl, hlH, ?_, ?_⟩
          · unfold ixN
            rw [if_pos (by omega), if_pos (by rw [rowF_len]; omega)]
            rfl
          dsimp only
          rw [← Int.natCast_add, rowF_set (g := cUp A z (prs A z t) i (j + 1)) hs (by rw [hc1, if_pos rfl]) fun s hs' => by rw [hc1, if_neg fun h => hs' h.symm]; rfl]
          obtain ⟨HI, eI⟩ : ∃ HI, upd HH l (.lst (rowF A.length (cUp A z (prs A z t) i (j + 1)))) = HI := ⟨_, rfl⟩
          have hlI : HI l = some (.lst (rowF A.length (cUp A z (prs A z t) i (j + 1)))) := by rw [← eI, upd_same]
          have hmI : HI ms = some (.lst (rowF A.length (sUp A z (prs A z t) i j))) := by rw [← eI, upd_ne lms.symm]; exact hmH
          have sI : Same HA HI := by rw [← eI]; exact same_over nlA sH
          rw [eI]
          refine ⟨_, rfl, _, rfl, ms, _, _, _, rfl, rfl, .inl (.inl hmI), atI_nat (rowF_get _ hs), _, rfl, _, rfl, u, _, _, _, rfl, rfl, .inl (.inl (sI _ _ hu)), atI_nat (rowF_get _ hi), _, _, rfl, rfl, _, rfl, _, rfl, _, rfl, c, _, _, _, rfl, rfl, .inl (.inl (sI _ _ hc)), atI_nat (rowF_get _ hi), _, _, rfl, rfl, .inl ⟨by omega, by omega⟩, _, _, rfl, rfl, ?_⟩
          refine ⟨_, rfl, _, rfl, ms, _, _, st.1, rfl, rfl, hmI, ?_, ?_⟩
          · unfold ixN
            rw [if_pos (by omega), if_pos (by rw [rowF_len]; omega)]
            rfl
          dsimp only
          rw [← Int.natCast_add, ← Int.natCast_mul, ← Int.natCast_add, rowF_set (g := sUp A z (prs A z t) i (j + 1)) hs (by rw [hc2, if_pos rfl]; omega) fun s hs' => by rw [hc2, if_neg fun h => hs' h.symm]; rfl]
          exact ⟨_, _, rfl, same_over nmA sI, by rw [upd_ne lms]; exact hlI, upd_same⟩
        · rintro σ HH ⟨v10, v11, rfl, sH, hlH, hmH⟩
          rw [lu] at hlH hmH
          refine ⟨_, _, _, _, rfl, sH, ?_, ?_⟩
          · rw [hlH]
            exact congrArg (fun r => some (HO.lst r)) (rowF_congr fun s => by unfold cUp; rw [if_pos (by decide), if_pos (by decide), if_neg (by decide), if_neg (by decide)])
          · rw [hmH]
            exact congrArg (fun r => some (HO.lst r)) (rowF_congr fun s => by unfold sUp; rw [if_pos (by decide), if_pos (by decide), if_neg (by decide), if_neg (by decide)])
      · rintro σ HF ⟨v8, v9, v10, v11, rfl, sF, hlF, hmF⟩
        rw [lm] at hlF hmF
        refine ⟨_, rfl, _, rfl, _, _, rfl, ?_⟩
        refine ⟨l, ms, _, _, _, _, _, _, _, rfl, sA.trans sF, ?_, ?_⟩
        · rw [hlF]
          exact congrArg (fun r => some (HO.lst r)) (rowF_congr fun s => by unfold cUp; rw [if_neg (by decide), if_neg (by decide), cN_succ hk])
        · rw [hmF]
          exact congrArg (fun r => some (HO.lst r)) (rowF_congr fun s => by unfold sUp; rw [if_neg (by decide), if_neg (by decide), sN_succ hk])
    · rintro σ HA ⟨c, u, v3, v6, v7, v8, v9, v10, v11, rfl, sA, hc, hu⟩
      refine ⟨_, rfl, u, nI ((List.range A.length).map (sN (prs A z n))), rfl, .inl (.inl hu), ?_⟩
      have es : (nI ((List.range A.length).map (sN (prs A z n)))).sum = ((sG A z n : Nat) : Int) := by
        rw [← sG_all hk n]
        exact nI_sum _
      rw [es]
      exact q _ ((s1.trans s2).trans ((((((s3.trans s4).trans s5).trans s6).trans s7).trans s8).trans sA))
  · refine ⟨_, rfl, _, rfl, .inl ⟨A, z, rfl, h1, h2, hk, fun H1 s1 => ?_⟩⟩
    exact ⟨_, rfl, u, 0, some 300, false, rfl, hu.same s1, (fun z => nomatch z), fun _ d nd => q H1 d s1 nd⟩
  · exact ⟨_, rfl, _, rfl, .inr ⟨hv, fun H' d s nd => q H' d s nd⟩⟩
end
end My

namespace My
open PySem PySem.Spec PyProof.Rows L2 Pre
/-! ### two marks' growths told apart -/
def GDiff (A : List Bool) (z : Bool) (B : List Bool) (y : Bool) (n : Nat) : Prop := ∃ k, gC A z n k ≠ gC B y n k
def IsPart (A : List Bool) (z : Bool) (B : List Bool) (y : Bool) (v : V) : Prop :=
  (∃ n : Nat, v = .int n ∧ n < A.length + B.length ∧ GDiff A z B y n ∧ ∀ m, m < n → ¬ GDiff A z B y m) ∨ (v = .non ∧ ∀ m, m < A.length + B.length → ¬ GDiff A z B y m)
theorem diff_iff {A B : List Bool} {z y : Bool} {n : Nat} {L M : List Nat} (hL : IsH L (gC A z n)) (hM : IsH M (gC B y n)) : GDiff A z B y n ↔ nI L ≠ nI M := by
  rw [Ne, nI_inj]
  constructor
  · rintro ⟨k, hk⟩ rfl
    exact hk ((hL.1 k).symm.trans (hM.1 k))
  · intro h
    refine Classical.byContradiction fun n => h (hL.uniq (hM.congr fun k => ?_))
    exact Classical.byContradiction fun e => n ⟨k, fun e2 => e e2.symm⟩
/-- two marks asked of -/
def MM (K : PySem.W.Frag) (H : Hp) (C : Addr) (v u : V) (E : XK) (ok : List Bool → Bool → List Bool → Bool → Prop) : Prop :=
  (∃ (A : List Bool) (z : Bool), v = .str (bS (A ++ [z])) ∧ GoodM A z ∧
    ((∃ (B : List Bool) (y : Bool), u = .str (bS (B ++ [y])) ∧ GoodM B y ∧ ok A z B y) ∨ (BadM K H u ∧ ∀ H' d, Same H H' → H' d = none → E (.ref C) (some d) (upd H' d (.xd [("value", u)]))))) ∨
  (BadM K H v ∧ ∀ H' d, Same H H' → H' d = none → E (.ref C) (some d) (upd H' d (.xd [("value", v)])))
local macro_rules | `(tactic| walk_at "go") => `(tactic| repeat (first | (with_reducible first | refine iteT ?_ | refine iteF ?_ | refine iteNtt ?_ | refine iteNff ?_ | refine iteET (by omega) ?_ | refine iteEF (by omega) ?_ | refine iteENT (by omega) ?_ | refine iteENF (by omega) ?_ | refine iteDT (by omega) ?_ | refine iteDF (by omega) ?_ | refine iteNT (by omega) ?_ | refine iteNF (by omega) ?_) | refine ⟨_, rfl, ?_⟩ | refine ⟨_, _, rfl, rfl, ?_⟩ | refine ⟨_, _, rfl, ?_⟩ | refine ⟨rfl, ?_⟩ | refine .inl ⟨_, rfl, ?_⟩ | refine .inr ⟨_, rfl, ?_⟩))
local macro_rules | `(tactic| walk_at "b") => `(tactic| try dsimp (config := { proj := false, iota := false, eta := false, zeta := false }) only)
section
variable {P : Program} {w : World} {K : PySem.W.Frag} {mg : Str → Option Value} {base : Heap} [pf : Sup.PF P fileS]
def sp_parting_growth (K : PySem.W.Frag) (C : Addr) : Sp := fun vs H Q E => ∃ v u : V, vs = [v, u] ∧ MM K H C v u E fun A z B y => ∀ H' x, Same H H' → IsPart A z B y x → Q x H'
theorem G_parting_growth (T : Top K mg) : FnOk P w K mg base (L2.CX P w) 6 T.f_parting_growth T.fd_parting_growth ["one", "other"] (sp_parting_growth K T.C_InvalidMark) := by
  refine T.F_parting_growth.ok (CX := L2.CX P w) sc_parting_growth (fun vs H Q E h => by obtain ⟨v, u, rfl, _⟩ := h; rfl) (fun cdv A outer s H vs Q E hr h => ?_)
  obtain ⟨v, u, rfl, h⟩ := h
  refine ⟨_, (pss_cons (ps_expr (pe_call (G_check_keepable (P := P) T) (hr.mono (by decide)) (by rfl) T.g_check_keepable T.F_check_keepable.kp T.b_check_keepable .nil (passes_call (takes_of rfl rfl rfl rfl) (fun _ _ _ _ h => h)) (pa_cons (pv 0) pa_nil)))
  (pss_cons (ps_expr (pe_call (G_check_keepable (P := P) T) (hr.mono (by decide)) (by rfl) T.g_check_keepable T.F_check_keepable.kp T.b_check_keepable .nil (passes_call (takes_of rfl rfl rfl rfl) (fun _ _ _ _ h => h)) (pa_cons (pv 1) pa_nil)))
  (pss_cons (ps_par (by rfl) sc_parting_growth.nd (i := 3) (j := 4) rfl rfl (by decide) rfl rfl (pa_cons (pe_call (G_moves_by (P := P) T) (hr.mono (by decide)) (by rfl) T.g_moves_by T.F_moves_by.kp T.b_moves_by .nil pass0 (pa_cons (pv 0) pa_nil)) (pa_cons (pe_call (G_moves_by (P := P) T) (hr.mono (by decide)) (by rfl) T.g_moves_by T.F_moves_by.kp T.b_moves_by .nil pass0 (pa_cons (pv 1) pa_nil)) pa_nil)) (by rfl))
  (pss_cons (ps_par (by rfl) sc_parting_growth.nd (i := 5) (j := 6) rfl rfl (by decide) rfl rfl (pa_cons (pe_call (G_first_counts (P := P) T) (hr.mono (by decide)) (by rfl) T.g_first_counts T.F_first_counts.kp T.b_first_counts .nil pass0 (pa_cons (pv 3) pa_nil)) (pa_cons (pe_call (G_first_counts (P := P) T) (hr.mono (by decide)) (by rfl) T.g_first_counts T.F_first_counts.kp T.b_first_counts .nil pass0 (pa_cons (pv 4) pa_nil)) pa_nil)) (by rfl))
  (pss_cons (ps_for (passes_of rfl) rfl (pi_range1 (by rfl) T.n_range (pa_cons (pe_op op_add (pe_callB (k_len K rfl) (by rfl) T.n_len (by decide +kernel) (pa_cons (pv 3) pa_nil)) (pe_callB (k_len K rfl) (by rfl) T.n_len (by decide +kernel) (pa_cons (pv 4) pa_nil))) pa_nil)) (pg_name (i := 2) sc_parting_growth.nd rfl (by first | exact Or.inl rfl | exact Or.inr rfl))
    (pss_cons (ps_if (pt_cmpR (k_neD K rfl hr.units) (pe_call (G_all_counts (P := P) T) (hr.mono (by decide)) (by rfl) T.g_all_counts T.F_all_counts.kp T.b_all_counts .nil pass0 (pa_cons (pv 5) pa_nil)) (pe_call (G_all_counts (P := P) T) (hr.mono (by decide)) (by rfl) T.g_all_counts T.F_all_counts.kp T.b_all_counts .nil pass0 (pa_cons (pv 6) pa_nil)) (nomark _))
    (pss_one (ps_ret (pv 2)))
    pss_nil)
  (pss_one (ps_par (by rfl) sc_parting_growth.nd (i := 5) (j := 6) rfl rfl (by decide) rfl rfl (pa_cons (pe_call (G_counts_by (P := P) T) (hr.mono (by decide)) (by rfl) T.g_counts_by T.F_counts_by.kp T.b_counts_by .nil pass0 (pa_cons (pv 3) (pa_cons (pv 5) pa_nil))) (pa_cons (pe_call (G_counts_by (P := P) T) (hr.mono (by decide)) (by rfl) T.g_counts_by T.F_counts_by.kp T.b_counts_by .nil pass0 (pa_cons (pv 4) (pa_cons (pv 6) pa_nil))) pa_nil)) (by rfl)))))
  (pss_one (ps_ret pe_non))))))), ?_⟩
  rcases h with ⟨A, z, rfl, hg, ⟨B, y, rfl, hg2, q⟩ | ⟨hu, q⟩⟩ | ⟨hv, q⟩
  · obtain ⟨h1, h2, hk⟩ := id hg
    obtain ⟨j1, j2, jk⟩ := id hg2
    refine ⟨_, rfl, _, rfl, .inl ⟨A, z, rfl, h1, h2, hk, fun H1 s1 => ?_⟩⟩
    refine ⟨_, rfl, _, rfl, .inl ⟨B, y, rfl, j1, j2, jk, fun H2 s2 => ?_⟩⟩
    refine ⟨_, rfl, A, z, rfl, hg, fun H3 m s3 nm hm => ?_⟩
    refine ⟨_, rfl, B, y, rfl, hg2, fun H4 m2 s4 nm2 hm2 => ?_⟩
    refine ⟨_, _, rfl, ?_⟩
    refine ⟨_, rfl, m, movesL A z, rfl, hm.same s4, by rw [movesL_len]; exact h1, by rw [movesL_len]; omega, fun H5 c s5 hc => ?_⟩
    rw [movesL_len] at hc
    refine ⟨_, rfl, m2, movesL B y, rfl, hm2.same s5, by rw [movesL_len]; exact j1, by rw [movesL_len]; omega, fun H6 c2 s6 hc2 => ?_⟩
    rw [movesL_len] at hc2
    have hm6 := (hm.same s4).same (s5.trans s6)
    have hm26 := hm2.same (s5.trans s6)
    obtain ⟨_, xm, e, hxm, hdm⟩ := hm6.listE
    cases e
    obtain ⟨_, xm2, e, hxm2, hdm2⟩ := hm26.listE
    cases e
    have lm : xm.length = A.length := by rw [hdm.len, movesL_len]
    have lm2 : xm2.length = B.length := by rw [hdm2.len, movesL_len]
    refine ⟨_, _, rfl, ?_⟩
    refine ⟨_, rfl, m, _, rfl, .inl (.inl (.inl hxm)), _, rfl, m2, _, rfl, .inl (.inl (.inl hxm2)), _, _, rfl, rfl, _, rfl, ?_⟩
    refine ⟨by omega, by omega, ?_⟩
    rw [lm, lm2, show (((A.length : Nat) : Int) + ((B.length : Nat) : Int)).toNat = A.length + B.length by omega]
    have s16 := ((((s1.trans s2).trans s3).trans s4).trans s5).trans s6
    refine for_range (lo := 0) (n := A.length + B.length) (fun i σ H7 => ∃ (d e : Addr) (v2 : Option V) (Ls Ms : List (List Nat)), σ = [some (.str (bS (A ++ [z]))), some (.str (bS (B ++ [y]))), v2, some (.ref m), some (.ref m2), some (.ref d), some (.ref e)] ∧ Same H6 H7 ∧ Dt H7 (.ref d) (.list (Ls.map rowN)) ∧ Dt H7 (.ref e) (.list (Ms.map rowN)) ∧ RowsH A.length Ls (cS (prs A z i)) ∧ RowsH B.length Ms (cS (prs B y i)) ∧ ∀ m', m' < i → ¬ GDiff A z B y m')
      ⟨c, c2, none, _, _, rfl, Same.refl _, hc.same s6, hc2, firsts A z h1, firsts B y j1, fun m' h => absurd h (Nat.not_lt_zero _)⟩ ?_ ?_
    · rintro i σ H7 hi ⟨d, e, v2, Ls, Ms, rfl, s7, hd, he, hL, hM, hno⟩
      rw [Int.zero_add]
      refine ⟨_, rfl, d, A, z, i, Ls, rfl, hg, by omega, hd, hL, fun H8 p L s8 np hp hIL => ?_⟩
      refine ⟨_, rfl, e, B, y, i, Ms, rfl, hg2, by omega, he.same s8, hM, fun H9 p2 M s9 np2 hp2 hIM => ?_⟩
      refine neD_lst (ns := nI L) (ms := nI M) (.inl (.inl (s9 _ _ hp))) (.inl (.inl hp2)) ⟨_, rfl, ?_⟩
      have hdi := diff_iff hIL hIM
      by_cases hc' : nI L = nI M
      · rw [decide_eq_true hc']
        refine iteF ?_
        have s79 := s8.trans s9
        refine ⟨_, rfl, _, rfl, m, d, A, z, i, Ls, rfl, hg, by omega, hm6.same (s7.trans s79), hd.same s79, hL, fun H10 p3 Ls' s10 hp3 hL' => ?_⟩
        refine ⟨_, rfl, _, rfl, m2, e, B, y, i, Ms, rfl, hg2, by omega, (hm26.same (s7.trans s79)).same s10, (he.same s79).same s10, hM, fun H11 p4 Ms' s11 hp4 hM' => ?_⟩
        refine ⟨_, _, rfl, p3, p4, _, Ls', Ms', rfl, ((s7.trans s79).trans s10).trans s11, hp3.same s11, hp4, hL', hM', fun m' h => ?_⟩
        by_cases e' : m' = i
        · subst e'
          exact fun h => (hdi.mp h) hc'
        · exact hno m' (by omega)
      · rw [decide_eq_false hc']
        refine iteT ⟨_, rfl, ?_⟩
        exact q _ _ (s16.trans ((s7.trans s8).trans s9)) (.inl ⟨i, rfl, hi, hdi.mpr hc', hno⟩)
    · rintro σ H7 ⟨d, e, v2, Ls, Ms, rfl, s7, hd, he, hL, hM, hno⟩
      exact q _ _ (s16.trans s7) (.inr ⟨rfl, hno⟩)
  · obtain ⟨h1, h2, hk⟩ := id hg
    refine ⟨_, rfl, _, rfl, .inl ⟨A, z, rfl, h1, h2, hk, fun H1 s1 => ?_⟩⟩
    exact ⟨_, rfl, _, rfl, .inr ⟨hu.same s1, fun H' d s nd => q H' d (s1.trans s) nd⟩⟩
  · exact ⟨_, rfl, _, rfl, .inr ⟨hv, fun H' d s nd => q H' d s nd⟩⟩
def sp_same_growths (K : PySem.W.Frag) (C : Addr) : Sp := fun vs H Q E => ∃ v u : V, vs = [v, u] ∧ MM K H C v u E fun A z B y => ∀ H' (b : Bool), Same H H' → (b = true ↔ ∀ m, m < A.length + B.length → ¬ GDiff A z B y m) → Q (.bl b) H'
theorem G_same_growths (T : Top K mg) : FnOk P w K mg base (L2.CX P w) 7 T.f_same_growths T.fd_same_growths ["one", "other"] (sp_same_growths K T.C_InvalidMark) := by
  refine T.F_same_growths.ok (CX := L2.CX P w) sc_same_growths (fun vs H Q E h => by obtain ⟨v, u, rfl, _⟩ := h; rfl) (fun cdv A outer s H vs Q E hr h => ?_)
  obtain ⟨v, u, rfl, h⟩ := h
  refine ⟨_, (pss_one (ps_ret (pe_cmpR op_isN (pe_call (G_parting_growth (P := P) T) (hr.mono (by decide)) (by rfl) T.g_parting_growth T.F_parting_growth.kp T.b_parting_growth .nil (passes_call (takes_of rfl rfl rfl rfl) (fun _ _ _ _ h => h)) (pa_cons (pv 0) (pa_cons (pv 1) pa_nil))) pe_non (nomark _)))), ?_⟩
  rcases h with ⟨A, z, rfl, hg, ⟨B, y, rfl, hg2, q⟩ | ⟨hu, q⟩⟩ | ⟨hv, q⟩
  · refine ⟨_, rfl, _, rfl, _, _, rfl, .inl ⟨A, z, rfl, hg, .inl ⟨B, y, rfl, hg2, fun H' x s hx => ?_⟩⟩⟩
    refine ⟨rfl, ?_⟩
    rcases hx with ⟨n, rfl, hn, hd, _⟩ | ⟨rfl, hd⟩
    · exact q _ false s ⟨(fun e => by cases e), fun h => absurd hd (h n hn)⟩
    · exact q _ true s ⟨fun _ => hd, fun _ => rfl⟩
  · exact ⟨_, rfl, _, rfl, _, _, rfl, .inl ⟨A, z, rfl, hg, .inr ⟨hu, fun H' d s nd => q H' d s nd⟩⟩⟩
  · exact ⟨_, rfl, _, rfl, _, _, rfl, .inr ⟨hv, fun H' d s nd => q H' d s nd⟩⟩
end
end My

namespace My
open PySem PySem.Spec PyProof.Rows L2 Pre
/-! ### the law of growth: what it counts itself -/
local macro_rules | `(tactic| walk_at "go") => `(tactic| repeat (first | (with_reducible first | refine iteT ?_ | refine iteF ?_ | refine iteNtt ?_ | refine iteNff ?_ | refine iteET (by omega) ?_ | refine iteEF (by omega) ?_ | refine iteENT (by omega) ?_ | refine iteENF (by omega) ?_ | refine iteDT (by omega) ?_ | refine iteDF (by omega) ?_ | refine iteNT (by omega) ?_ | refine iteNF (by omega) ?_) | refine ⟨_, rfl, ?_⟩ | refine ⟨_, _, rfl, rfl, ?_⟩ | refine ⟨_, _, rfl, ?_⟩ | refine ⟨rfl, ?_⟩ | refine .inl ⟨_, rfl, ?_⟩ | refine .inr ⟨_, rfl, ?_⟩))
local macro_rules | `(tactic| walk_at "b") => `(tactic| try dsimp (config := { proj := false, iota := false, eta := false, zeta := false }) only)
section
variable {P : Program} {w : World} {K : PySem.W.Frag} {mg : Str → Option Value} {base : Heap} [pf : Sup.PF P fileS]
def sp_law_grown : Sp := fun vs H Q _ => ∃ (A : List Bool) (z : Bool) (bs : List Bool), vs = [.str (bS (A ++ [z])), .str (bS bs)] ∧ A.length ≤ 100 ∧ bs.length ≤ 10000 ∧ Q (.int (grA A z bs)) H
theorem G_law_grown (T : Top K mg) : FnOk P w K mg base CX0 1 T.f_law_grown T.fd_law_grown ["_law_mark_here", "_law_row"] sp_law_grown := by
  refine T.F_law_grown.ok sc_law_grown (fun vs H Q E h => by obtain ⟨A, z, bs, rfl, _⟩ := h; rfl) (fun cdv A outer s H vs Q E hr h => ?_)
  obtain ⟨A, z, bs, rfl, h2, hz, q⟩ := h
  refine ⟨_, PSs.nox (pss_cons (ps_set (i := 2) sc_law_grown.nd rfl (by first | exact Or.inl rfl | exact Or.inr rfl) pe_str)
  (pss_cons (ps_for PassesOwn.never rfl (pi_str (pv 1)) (pg_name (i := 3) sc_law_grown.nd rfl (by first | exact Or.inl rfl | exact Or.inr rfl))
    (pss_cons (ps_set (i := 2) sc_law_grown.nd rfl (by first | exact Or.inl rfl | exact Or.inr rfl) (pe_op op_add_str (pv 2) (pv 3)))
  (pss_one (ps_if (pt_val (pe_m1 PySem.F.slot_str_endswith PySem.F.type_str_endswith mt_endswith (pv 2) (pe_slice sl_str (pv 0) po_none (po_some (pe_un un_neg pe_int)))))
    (pss_one (ps_set (i := 2) sc_law_grown.nd rfl (by first | exact Or.inl rfl | exact Or.inr rfl) (pe_op op_add_str (pv 2) (pe_ix ix_str pe_str (pe_callTy call_int_str (by rfl) T.n_int (by decide +kernel) (pa_cons (pe_ix ix_str (pv 0) (pe_un un_neg pe_int) (fun _ _ => rfl)) pa_nil)) (fun _ _ => rfl)))))
    pss_nil))))
  (pss_one (ps_ret (pe_op op_sub (pe_callB call_len_str (by rfl) T.n_len (by decide +kernel) (pa_cons (pv 2) pa_nil)) (pe_callB call_len_str (by rfl) T.n_len (by decide +kernel) (pa_cons (pv 1) pa_nil))))))), ?_⟩
  have hl : (bS (A ++ [z])).length = A.length + 1 := by rw [bS_len, List.length_append, List.length_singleton]
  refine ⟨_, rfl, _, rfl, for_it walk_str (fun i σ H1 => ∃ v3, σ = [some (.str (bS (A ++ [z]))), some (.str (bS bs)), some (.str (bS (stuff A z (bs.take i)))), v3] ∧ H1 = H) ⟨none, by rw [str_nil]; rfl, rfl⟩ (fun _ _ _ _ _ => trivial) ?_ ?_⟩
  · rintro i x σ H1 H2 hi ⟨v3, rfl, rfl⟩ ⟨rfl, c, hc, rfl⟩
    obtain ⟨b, hb, ec⟩ := bS_at hc
    rw [ec]
    have hlt : (stuff A z (bs.take i)).length ≤ 20000 := by
      have h3 := (stuff_len (A := A) (z := z) (bs.take i)).2
      rw [List.length_take] at h3
      omega
    have hst := stuff_take (A := A) (z := z) hb
    generalize stuff A z (bs.take i) = t at *
    refine ⟨_, rfl, _, rfl, _, _, rfl, rfl, by rw [bS_len, bS_len, List.length_singleton, sizeLine_eq]; omega, ?_⟩
    rw [bS_app]
    refine ⟨_, rfl, ⟨_, rfl⟩, _, rfl, _, rfl, _, rfl, _, rfl, by rw [hl, sizeLine_eq]; omega, ?_⟩
    rw [cut_head]
    refine ⟨_, _, rfl, rfl, _, rfl, ?_⟩
    rw [ends_bS]
    by_cases hs : A <:+ t ++ [b]
    · rw [if_pos hs] at hst
      refine iteDT hs ?_
      refine ⟨_, rfl, _, rfl, _, rfl, _, _, sgn z, rfl, rfl, by rw [hl, sizeLine_eq]; omega, at_last A z, _, _, rfl, bit_int z, (by show 1 ≤ 640; decide), ?_⟩
      rw [str_10]
      refine ⟨_, _, sgn (!z), rfl, rfl, by rw [bS_len]; decide, other_at z, ?_⟩
      refine ⟨_, _, rfl, rfl, by rw [bS_one, bS_len, bS_len, List.length_append, List.length_singleton, List.length_singleton, sizeLine_eq]; omega, ?_⟩
      rw [bS_one, bS_app]
      exact ⟨_, by rw [hst]; rfl, rfl⟩
    · rw [if_neg hs] at hst
      refine iteDF hs ?_
      exact ⟨_, by rw [hst]; rfl, rfl⟩
  · rintro σ H1 ⟨v3, rfl, rfl⟩
    rw [bS_size, List.take_length]
    have hlen := (stuff_len (A := A) (z := z) bs)
    refine ⟨_, rfl, _, rfl, by rw [bS_len, sizeLine_eq]; omega, _, rfl, _, rfl, by rw [bS_len, sizeLine_eq]; omega, _, _, rfl, rfl, ?_⟩
    rw [bS_len, bS_len]
    unfold grA at q
    rw [show (((stuff A z bs).length - bs.length : Nat) : Int) = ((stuff A z bs).length : Int) - (bs.length : Int) by omega] at q
    exact q
theorem gC_take (A : List Bool) (z : Bool) {l : List (List Bool)} {i : Nat} {x : List Bool} (h : l[i]? = some x) (k : Nat) : (l.take (i + 1)).countP (fun x => decide (grA A z x = k)) = (l.take i).countP (fun x => decide (grA A z x = k)) + if k = grA A z x then 1 else 0 := by
  rw [List.take_add_one, h, List.countP_append]
  congr 1
  show List.countP _ [x] = _
  rw [List.countP_singleton]
  by_cases e : grA A z x = k
  · rw [decide_eq_true e, if_pos rfl, if_pos e.symm]
  · rw [decide_eq_false e, if_neg (by decide), if_neg fun h => e h.symm]
def sp_law_counts : Sp := fun vs H Q _ => ∃ (A : List Bool) (z : Bool) (n : Nat), vs = [.str (bS (A ++ [z])), .int n] ∧ A.length ≤ 100 ∧ n ≤ 10 ∧ ∀ H' p L, Same H H' → H p = none → H' p = some (.lst ((nI L).map V.int)) → IsH L (gC A z n) → Q (.ref p) H'
theorem G_law_counts (T : Top K mg) : FnOk P w K mg base CX0 2 T.f_law_counts T.fd_law_counts ["_law_mark_here", "_law_many"] sp_law_counts := by
  refine T.F_law_counts.ok sc_law_counts (fun vs H Q E h => by obtain ⟨A, z, n, rfl, _⟩ := h; rfl) (fun cdv A outer s H vs Q E hr h => ?_)
  obtain ⟨A, z, n, rfl, h2, hn, q⟩ := h
  refine ⟨_, PSs.nox (pss_cons (ps_set (i := 2) sc_law_counts.nd rfl (by first | exact Or.inl rfl | exact Or.inr rfl) (pe_lst pa_nil))
  (pss_cons (ps_for PassesOwn.never rfl (k_piL K rfl (pe_call (G_law_words (P := P) T) (hr.mono (by decide)) (by rfl) T.g_law_words T.F_law_words.kp T.b_law_words .nil pass0 (pa_cons (pv 1) pa_nil))) (pg_name (i := 3) sc_law_counts.nd rfl (by first | exact Or.inl rfl | exact Or.inr rfl))
    (pss_cons (ps_set (i := 4) sc_law_counts.nd rfl (by first | exact Or.inl rfl | exact Or.inr rfl) (pe_call (G_law_grown (P := P) T) (hr.mono (by decide)) (by rfl) T.g_law_grown T.F_law_grown.kp T.b_law_grown .nil pass0 (pa_cons (pv 0) (pa_cons (pv 3) pa_nil))))
  (pss_cons (ps_set (i := 2) sc_law_counts.nd rfl (by first | exact Or.inl rfl | exact Or.inr rfl) (pe_op op_cat (pv 2) (pe_op op_rep (pe_lst (pa_cons pe_int pa_nil)) (pe_op op_sub (pe_op op_add (pv 4) pe_int) (pe_callB (k_len K rfl) (by rfl) T.n_len (by decide +kernel) (pa_cons (pv 2) pa_nil))))))
  (pss_one (ps_asg (pe_op op_add (pe_ix (k_ixL K rfl) (pv 2) (pv 4) (fun _ _ => rfl)) pe_int) (pg_sub (pv 2) (pv 4) set_list))))))
  (pss_one (ps_ret (pv 2))))), ?_⟩
  refine ⟨Nat.zero_le _, fun a na => ?_⟩
  obtain ⟨H1, e1, s1, ha1⟩ := fresh (.lst ([] : List V)) na
  rw [e1]
  refine ⟨_, rfl, n, rfl, hn, fun H2 c s2 nc hc => ?_⟩
  refine ⟨c, rfl, ⟨_, .inl (.inl hc)⟩, for_list (K := K) (a := c) (xs := (wds n).map fun x => V.str (bS x)) (fun i σ H3 => ∃ (d : Addr) (v3 v4 : Option V) (L : List Nat), σ = [some (.str (bS (A ++ [z]))), some (.int n), some (.ref d), v3, v4] ∧ Same H2 H3 ∧ H d = none ∧ H3 d = some (.lst ((nI L).map V.int)) ∧ IsH L (fun k => ((wds n).take i).countP fun x => decide (grA A z x = k)))
    ⟨a, none, none, [], rfl, Same.refl _, na, s2 _ _ ha1, IsH.nil.congr fun k => by rw [List.take_zero]; rfl⟩ (fun i σ H3 _ ⟨_, _, _, _, _, s3, _⟩ => .inl (.inl (s3 _ _ hc))) ?_ ?_⟩
  · rintro i x σ H3 hx ⟨d, v3, v4, L, rfl, s3, nd, hd, hL⟩
    rw [List.getElem?_map] at hx
    obtain ⟨y, hy, rfl⟩ := Option.map_eq_some_iff.mp hx
    have ly : y.length = n := (wds_mem n y).mp (List.mem_of_getElem? hy)
    have hg := gr_le A z y
    have hLs : L.length ≤ 11 := hL.short fun k hk => by
      rw [List.countP_eq_zero]
      intro x hx' e
      have hm := List.mem_of_mem_take hx'
      have := gr_le A z x
      rw [(wds_mem n x).mp hm] at this
      have := of_decide_eq_true e
      omega
    have hstep := gC_take A z hy
    refine ⟨_, rfl, _, rfl, A, z, y, rfl, h2, by omega, ?_⟩
    generalize grA A z y = g at *
    refine ⟨_, rfl, (by show 1 ≤ sizeLine; decide), fun p1 np1 => ?_⟩
    obtain ⟨H4, e4, s4, hp1⟩ := fresh (.lst [V.int 0]) np1
    rw [e4]
    refine ⟨_, rfl, _, _, rfl, rfl, _, rfl, d, _, rfl, .inl (.inl (.inl (s4 _ _ hd))), _, _, rfl, rfl, ?_⟩
    dsimp only
    rw [nI_len]
    refine ⟨p1, _, _, rfl, rfl, hp1, by omega, by omega, by rw [sizeLine_eq]; show 1 * _ ≤ _; omega, fun p2 np2 => ?_⟩
    rw [show ((g : Int) + 1 - (L.length : Int)).toNat = g + 1 - L.length by omega, rep0]
    obtain ⟨H5, e5, s5, hp2⟩ := fresh (.lst ((nI (List.replicate (g + 1 - L.length) 0)).map V.int)) np2
    rw [e5]
    refine ⟨d, p2, _, _, rfl, rfl, s5 _ _ (s4 _ _ hd), hp2, by rw [nI_len, nI_len, List.length_replicate, sizeLine_eq]; omega, fun p3 np3 => ?_⟩
    have epad : (nI L).map V.int ++ (nI (List.replicate (g + 1 - L.length) 0)).map V.int = (nI (L ++ List.replicate (g + 1 - L.length) 0)).map V.int := by unfold nI; rw [List.map_append, List.map_append]
    rw [epad]
    obtain ⟨H6, e6, s6, hp3⟩ := fresh (.lst ((nI (L ++ List.replicate (g + 1 - L.length) 0)).map V.int)) np3
    rw [e6]
    have hgl : g < (L ++ List.replicate (g + 1 - L.length) 0).length := by rw [List.length_append, List.length_replicate]; omega
    have hgv : (L ++ List.replicate (g + 1 - L.length) 0)[g]? = some ((L ++ List.replicate (g + 1 - L.length) 0).getD g 0) := by rw [List.getD_eq_getElem?_getD, List.getElem?_eq_getElem hgl]; rfl
    refine ⟨_, rfl, _, rfl, p3, _, _, _, rfl, rfl, .inl (.inl hp3), atI_nat (nI_get hgv), _, _, rfl, rfl, ?_⟩
    refine ⟨_, rfl, _, rfl, p3, _, _, g, rfl, rfl, hp3, ?_, ?_⟩
    · unfold ixN
      rw [if_pos (by omega), if_pos (by rw [nI_len]; omega)]
      rfl
    have s36 := (s4.trans s5).trans s6
    have np3H2 : H2 p3 = none := ((s3.trans s4).trans s5).free np3
    refine ⟨p3, _, _, bm L g, rfl, same_over np3H2 (s3.trans s36), (s1.trans s2).free np3H2, ?_, (hL.bm g).congr fun k => (hstep k).symm⟩
    rw [upd_same]
    congr 2
    unfold bm nI
    dsimp only
    rw [← Int.natCast_succ, List.map_set, List.map_set]
  · rintro σ H3 ⟨d, v3, v4, L, rfl, s3, nd, hd, hL⟩
    rw [List.length_map, List.take_length] at hL
    exact ⟨_, rfl, q _ d L ((s1.trans s2).trans s3) nd hd hL⟩
end
end My

namespace My
open PySem PySem.Spec PyProof.Rows L2 Pre
/-! ### the law of growth: turned marks, steps -/
theorem dtA_strs {H : Hp} : ∀ {l : List Str} {xs : List V}, DtA H xs (l.map PyData.str) → xs = l.map V.str
  | [], _, h => by cases h; rfl
  | x :: r, _, h => by
    rw [List.map_cons] at h
    cases h with
    | cons a b =>
      cases a
      rw [dtA_strs b]
      rfl
local macro_rules | `(tactic| walk_at "go") => `(tactic| repeat (first | (with_reducible first | refine iteT ?_ | refine iteF ?_ | refine iteNtt ?_ | refine iteNff ?_ | refine iteET (by omega) ?_ | refine iteEF (by omega) ?_ | refine iteENT (by omega) ?_ | refine iteENF (by omega) ?_ | refine iteDT (by omega) ?_ | refine iteDF (by omega) ?_ | refine iteNT (by omega) ?_ | refine iteNF (by omega) ?_) | refine ⟨_, rfl, ?_⟩ | refine ⟨_, _, rfl, rfl, ?_⟩ | refine ⟨_, _, rfl, ?_⟩ | refine ⟨rfl, ?_⟩ | refine .inl ⟨_, rfl, ?_⟩ | refine .inr ⟨_, rfl, ?_⟩))
local macro_rules | `(tactic| walk_at "b") => `(tactic| try dsimp (config := { proj := false, iota := false, eta := false, zeta := false }) only)
section
variable {P : Program} {w : World} {K : PySem.W.Frag} {mg : Str → Option Value} {base : Heap} [pf : Sup.PF P fileS]
def sp_law_other_bits : Sp := fun vs H Q _ => ∃ bs : List Bool, vs = [.str (bS bs)] ∧ bs.length ≤ 100 ∧ ∀ H', Same H H' → Q (.str (bS (cm bs))) H'
theorem G_law_other_bits (T : Top K mg) : FnOk P w K mg base CX0 1 T.f_law_other_bits T.fd_law_other_bits ["_law_mark_here"] sp_law_other_bits := by
  refine T.F_law_other_bits.ok sc_law_other_bits (fun vs H Q E h => by obtain ⟨bs, rfl, _⟩ := h; rfl) (fun cdv A outer s H vs Q E hr h => ?_)
  obtain ⟨bs, rfl, hz, q⟩ := h
  refine ⟨_, PSs.nox (pss_one (ps_ret (pe_join pe_str (pe_lc (own := [("_law_bit", 1)]) (g := gName 1) (tt := tYes) (by rfl) sc_law_other_bits.nd (pi_str (pv 0)) (blkOk_by (own := [("_law_bit", 1)]) (N := N_law_other_bits) (sc := defScope s_law_other_bits) (by decide +kernel)) (fun _ _ _ _ _ => (pg_name (i := 1) sc_law_other_bits.nd rfl (by first | exact Or.inl rfl | exact Or.inr rfl))) (fun _ _ _ _ _ => pts_nil) (fun _ _ _ _ _ => (pe_ix ix_str pe_str (pe_callTy call_int_str (by rfl) T.n_int (by decide +kernel) (pa_cons (pv 1) pa_nil)) (fun _ _ => rfl))))))), ?_⟩
  refine ⟨⟨_, rfl⟩, _, rfl, _, rfl, fun D nD => ?_⟩
  refine lc_dW walk_str (Has.nil (H := H)) (bs.map fun b => some (PyData.str (bS [!b]))) nD (by rw [List.length_map, bS_size]) (by rw [bS_size]; exact small4 (by omega)) (fun _ _ => trivial) ?_ ?_
  · rintro i o H0 x H' hi ho s0 hS ⟨rfl, c, hc, rfl⟩ Qt qt
    obtain ⟨b, hb, ec⟩ := bS_at hc
    rw [ec]
    rw [List.getElem?_map, hb] at ho
    cases ho
    refine ⟨rfl, ?_⟩
    unfold tYes
    dsimp only
    rw [if_pos (show true = true from rfl)]
    refine ⟨_, rfl, _, _, rfl, bit_int b, (by show 1 ≤ 640; decide), ?_⟩
    rw [str_10]
    refine ⟨_, _, sgn (!b), rfl, rfl, by rw [bS_len]; decide, other_at b, ?_⟩
    exact qt _ _ (Same.refl _) (.str _)
  · intro H' s hD hd
    rw [rs_nil, show (bs.map fun b => some (PyData.str (bS [!b]))).filterMap id = ((cm bs).map fun b => bS [b]).map PyData.str by
      rw [sel_map]
      unfold cm
      rw [List.map_map, List.map_map]
      rfl] at hd
    obtain ⟨_, xs, e, hxs, hx⟩ := hd.listE
    cases e
    rw [dtA_strs hx, ← sg_eq] at hxs
    obtain ⟨ys, j1, j2, j3⟩ := join_sg' (K := K) hxs (by rw [cm_len]; omega)
    refine ⟨_, D, ys, rfl, rfl, j1, j2, ?_⟩
    rw [j3]
    exact q _ s
def sp_law_step : Sp := fun vs H Q _ => ∃ (A : List Bool) (z : Bool), vs = [.str (bS (A ++ [z]))] ∧ A.length ≤ 100 ∧ ∀ H', Same H H' → Q (.int ((A.length : Int) - (beh A z : Int))) H'
theorem G_law_step (T : Top K mg) : FnOk P w K mg base CX0 1 T.f_law_step T.fd_law_step ["_law_mark_here"] sp_law_step := by
  refine T.F_law_step.ok sc_law_step (fun vs H Q E h => by obtain ⟨A, z, rfl, _⟩ := h; rfl) (fun cdv A outer s H vs Q E hr h => ?_)
  obtain ⟨A, z, rfl, hz, q⟩ := h
  refine ⟨_, PSs.nox (pss_cons (ps_set (i := 1) sc_law_step.nd rfl (by first | exact Or.inl rfl | exact Or.inr rfl) (pe_op op_add_str (pe_slice sl_str (pv 0) po_none (po_some (pe_un un_neg pe_int))) (pe_ix ix_str pe_str (pe_callTy call_int_str (by rfl) T.n_int (by decide +kernel) (pa_cons (pe_ix ix_str (pv 0) (pe_un un_neg pe_int) (fun _ _ => rfl)) pa_nil)) (fun _ _ => rfl))))
  (pss_cons (ps_setLc (i := 2) (own := [("_law_wide", 3)]) (g := gName 3) (by rfl) sc_law_step.nd rfl rfl (sw_true rfl rfl rfl (by decide +kernel)) (pi_range1 (by rfl) T.n_range (pa_cons (pe_callB call_len_str (by rfl) T.n_len (by decide +kernel) (pa_cons (pv 0) pa_nil)) pa_nil)) (blkOk_by (own := [("_law_wide", 3)]) (N := N_law_step) (sc := defScope s_law_step) (by decide +kernel)) (fun _ _ _ _ _ => (pg_name (i := 3) sc_law_step.nd rfl (by first | exact Or.inl rfl | exact Or.inr rfl))) (fun _ _ _ _ _ => (pts_one (pt_val (pe_m1 PySem.F.slot_str_endswith PySem.F.type_str_endswith mt_endswith (pv 1) (pe_slice sl_str (pv 0) po_none (po_some (pv 3))))))) (fun _ _ _ _ _ => (pv 3)))
  (pss_one (ps_ret (pe_op op_sub (pe_op op_sub (pe_callB call_len_str (by rfl) T.n_len (by decide +kernel) (pa_cons (pv 0) pa_nil)) pe_int) (pe_ix (k_ixL K rfl) (pv 2) (pe_un un_neg pe_int) (fun _ _ => rfl))))))), ?_⟩
  have hl : (bS (A ++ [z])).length = A.length + 1 := by rw [bS_len, List.length_append, List.length_singleton]
  refine ⟨_, rfl, _, rfl, _, rfl, _, rfl, by rw [hl, sizeLine_eq]; omega, ?_⟩
  rw [cut_head]
  refine ⟨_, rfl, _, rfl, _, _, sgn z, rfl, rfl, by rw [hl, sizeLine_eq]; omega, at_last A z, _, _, rfl, bit_int z, (by show 1 ≤ 640; decide), ?_⟩
  rw [str_10]
  refine ⟨_, _, sgn (!z), rfl, rfl, by rw [bS_len]; decide, other_at z, ?_⟩
  refine ⟨_, _, rfl, rfl, by rw [bS_one, bS_len, bS_len, List.length_singleton, sizeLine_eq]; omega, ?_⟩
  rw [bS_one, bS_app]
  refine ⟨_, rfl, _, rfl, by rw [hl, sizeLine_eq]; omega, ?_⟩
  rw [hl]
  refine ⟨_, rfl, by omega, by omega, fun D nD => ?_⟩
  rw [Int.toNat_natCast]
  refine lc_selR (lo := 0) (n := A.length + 1) ((List.range (A.length + 1)).map fun w => if decide ((A ++ [z]).take w <:+ A ++ [!z]) = true then some (V.int (w : Int)) else none) nD (by rw [List.length_map, List.length_range]) (small4 (by omega)) (fun x => rfl) ?_ ?_
  · intro i o H' hi ho s Qt qt
    rw [List.getElem?_map, List.getElem?_range hi] at ho
    cases ho
    rw [Int.zero_add]
    refine ⟨_, rfl, ⟨_, rfl⟩, _, rfl, _, rfl, _, rfl, _, rfl, by rw [hl, sizeLine_eq]; omega, ?_⟩
    rw [cut_bSt]
    refine ⟨_, _, rfl, rfl, _, rfl, ?_⟩
    rw [ends_bS]
    dsimp only at qt
    by_cases h : (A ++ [z]).take i <:+ A ++ [!z]
    · rw [if_pos (decide_eq_true h)] at qt
      exact iteDT h ⟨_, rfl, qt _ (Same.refl _)⟩
    · rw [if_neg (by rw [decide_eq_false h]; decide)] at qt
      exact iteDF h (qt _ (Same.refl _))
  · intro H' s hD
    obtain ⟨pre, hpre⟩ := over_last A z
    have ef : ∀ l : List Nat, (l.map fun w => if decide ((A ++ [z]).take w <:+ A ++ [!z]) = true then some (V.int (w : Int)) else none).filterMap id = (l.filter fun w => decide ((A ++ [z]).take w <:+ A ++ [!z])).map fun w : Nat => V.int (w : Int) := fun l => by
      induction l with
      | nil => rfl
      | cons w r ih =>
        rw [List.map_cons, List.filterMap_cons, List.filter_cons]
        by_cases h : decide ((A ++ [z]).take w <:+ A ++ [!z]) = true
        · rw [if_pos h, if_pos h, List.map_cons, ← ih]
          rfl
        · rw [if_neg h, if_neg h, ← ih]
          rfl
    rw [ef, hpre, List.map_append] at hD
    refine ⟨_, rfl, _, rfl, by rw [hl, sizeLine_eq]; omega, _, _, rfl, rfl, _, rfl, _, rfl, D, _, _, _, rfl, rfl, .inl (.inl hD), atI_last _ _, _, _, rfl, rfl, ?_⟩
    dsimp only
    rw [hl, show (((A.length + 1 : Nat) : Int) - 1 - ((beh A z : Nat) : Int)) = ((A.length : Int) - (beh A z : Int)) by omega]
    exact q _ s
end
end My

namespace My
open PySem PySem.Spec PyProof.Rows L2 Pre
local macro_rules | `(tactic| walk_at "go") => `(tactic| repeat (first | (with_reducible first | refine iteT ?_ | refine iteF ?_ | refine iteNtt ?_ | refine iteNff ?_ | refine iteET (by omega) ?_ | refine iteEF (by omega) ?_ | refine iteENT (by omega) ?_ | refine iteENF (by omega) ?_ | refine iteDT (by omega) ?_ | refine iteDF (by omega) ?_ | refine iteNT (by omega) ?_ | refine iteNF (by omega) ?_) | refine ⟨_, rfl, ?_⟩ | refine ⟨_, _, rfl, rfl, ?_⟩ | refine ⟨_, _, rfl, ?_⟩ | refine ⟨rfl, ?_⟩ | refine .inl ⟨_, rfl, ?_⟩ | refine .inr ⟨_, rfl, ?_⟩))
local macro_rules | `(tactic| walk_at "b") => `(tactic| try dsimp (config := { proj := false, iota := false, eta := false, zeta := false }) only)
section
variable {P : Program} {w : World} {K : PySem.W.Frag} {mg : Str → Option Value} {base : Heap} [pf : Sup.PF P fileS]
/-- ways 0 to 3 ask a mark and a number, 4 and 5 two marks -/
def wayHi (k : Nat) : Int := match k with
  | 0 => 10 ^ 18
  | 1 => 4000
  | 2 => 60
  | _ => 300
def sp_law_caught (K : PySem.W.Frag) : Sp := fun vs H Q _ => ∃ (k : Nat) (v u : V), vs = [.int k, v, u] ∧ k < 6 ∧
  ((∃ x : V, (BadM K H v ∧ x = v ∨ (∃ (A : List Bool) (z : Bool), v = .str (bS (A ++ [z])) ∧ GoodM A z ∧ 4 ≤ k ∧ BadM K H u ∧ x = u)) ∧ ∀ H' a, Same H H' → H a = none → H' a = some (.lst [.str (("mark" : String) : Str), x]) → Q (.ref a) H') ∨
   ((∃ (A : List Bool) (z : Bool), v = .str (bS (A ++ [z])) ∧ GoodM A z ∧ k < 4 ∧ NumV K H u 0 (some (wayHi k)) false) ∧ ∀ H' a, Same H H' → H a = none → H' a = some (.lst [.str (("number" : String) : Str), u]) → Q (.ref a) H'))
theorem G_law_caught (T : Top K mg) : FnOk P w K mg base CX0 8 T.f_law_caught T.fd_law_caught ["_law_way", "_law_mark_here", "_law_many"] (sp_law_caught K) := by
  refine T.F_law_caught.ok sc_law_caught (fun vs H Q E h => by obtain ⟨k, v, u, rfl, _⟩ := h; rfl) (fun cdv A outer s H vs Q E hr h => ?_)
  obtain ⟨k, v, u, rfl, hk, h⟩ := h
  refine ⟨_, PSs.nox (pss_cons (ps_set (i := 3) sc_law_caught.nd rfl (by first | exact Or.inl rfl | exact Or.inr rfl) (pe_lst (pa_cons pe_str (pa_cons pe_non pa_nil))))
  (pss_cons (ps_try_manyAs (i := 4) rfl rfl sc_law_caught.nd rfl rfl takes_none5 (fun W pn xe tk po => (pss_one (ps_if (pt_cmpR op_eq (pv 0) pe_int (nomark _))
    (pss_one (ps_expr (pe_callS (G_most_growth (P := P) T) (hr.mono (by decide)) (by rfl) T.g_most_growth T.F_most_growth.kp T.b_most_growth (fun σ => passAt tk σ) (pa_cons (pv 1) (pa_cons (pv 2) pa_nil)))))
    (pss_one (ps_if (pt_cmpR op_eq (pv 0) pe_int (nomark _))
    (pss_one (ps_expr (pe_callS (G_most_row (P := P) T) (hr.mono (by decide)) (by rfl) T.g_most_row T.F_most_row.kp T.b_most_row (fun σ => passAt tk σ) (pa_cons (pv 1) (pa_cons (pv 2) pa_nil)))))
    (pss_one (ps_if (pt_cmpR op_eq (pv 0) pe_int (nomark _))
    (pss_one (ps_expr (pe_callS (G_growths (P := P) T) (hr.mono (by decide)) (by rfl) T.g_growths T.F_growths.kp T.b_growths (fun σ => passAt tk σ) (pa_cons (pv 1) (pa_cons (pv 2) pa_nil)))))
    (pss_one (ps_if (pt_cmpR op_eq (pv 0) pe_int (nomark _))
    (pss_one (ps_expr (pe_callS (G_sum_growth (P := P) T) (hr.mono (by decide)) (by rfl) T.g_sum_growth T.F_sum_growth.kp T.b_sum_growth (fun σ => passAt tk σ) (pa_cons (pv 1) (pa_cons (pv 2) pa_nil)))))
    (pss_one (ps_if (pt_cmpR op_eq (pv 0) pe_int (nomark _))
    (pss_one (ps_expr (pe_callS (G_same_growths (P := P) T) (hr.mono (by decide)) (by rfl) T.g_same_growths T.F_same_growths.kp T.b_same_growths (fun σ => passAt tk σ) (pa_cons (pv 1) (pa_cons (pv 2) pa_nil)))))
    (pss_one (ps_expr (pe_callS (G_parting_growth (P := P) T) (hr.mono (by decide)) (by rfl) T.g_parting_growth T.F_parting_growth.kp T.b_parting_growth (fun σ => passAt tk σ) (pa_cons (pv 1) (pa_cons (pv 2) pa_nil))))))))))))))))
    (HdsAs.cons ⟨by rfl, by decide, .inl T.gc_InvalidMark⟩ (fun a oe cls d pn hz hf => (pss_one (ps_set (i := 3) sc_law_caught.nd rfl (by first | exact Or.inl rfl | exact Or.inr rfl) (pe_lst (pa_cons pe_str (pa_cons (pe_xfA hz hf (pv 4)) pa_nil)))))) (HdsAs.cons ⟨by rfl, by decide, .inl T.gc_InvalidNumber⟩ (fun a oe cls d pn hz hf => (pss_one (ps_set (i := 3) sc_law_caught.nd rfl (by first | exact Or.inl rfl | exact Or.inr rfl) (pe_lst (pa_cons pe_str (pa_cons (pe_xfA hz hf (pv 4)) pa_nil)))))) HdsAs.nil)))
  (pss_one (ps_ret (pv 3))))), ?_⟩
  refine ⟨(by show 2 ≤ sizeLine; decide), fun a0 na0 => ?_⟩
  obtain ⟨H1, e1, s1, ha1⟩ := fresh (.lst [V.str (("none" : String) : Str), V.non]) na0
  rw [e1]
  rcases h with ⟨x, ⟨hv, rfl⟩ | ⟨A, z, rfl, hg, hk4, hu, rfl⟩, q⟩ | ⟨⟨A, z, rfl, hg, hk4, hu⟩, q⟩
  · obtain rfl | rfl | rfl | rfl | rfl | rfl : k = 0 ∨ k = 1 ∨ k = 2 ∨ k = 3 ∨ k = 4 ∨ k = 5 := by omega
    · refine ⟨_, rfl, rfl, _, rfl, iteDT rfl ⟨_, rfl, _, rfl, _, _, rfl, .inr ⟨hv.same s1, fun H2 d s2 nd => ?_⟩⟩⟩
      refine ⟨true, T.em_InvalidMark_InvalidMark, fun _ a na => ?_, fun z => nomatch z⟩
      refine ⟨_, rfl, rfl, _, rfl, T.er_InvalidMark.xf, T.er_InvalidMark.sup.nov, d, _, _, rfl, upd_same, rfl, (by show 2 ≤ sizeLine; decide), fun p np => ?_⟩
      exact ⟨_, rfl, q _ p (((s1.trans s2).trans (same_upd nd)).trans (same_upd np)) (((s1.trans s2).trans (same_upd nd)).free np) upd_same⟩
    · refine ⟨_, rfl, rfl, _, rfl, iteDF (by intro z; cases z) ⟨_, rfl, rfl, _, rfl, iteDT rfl ⟨_, rfl, _, rfl, _, _, rfl, .inr ⟨hv.same s1, fun H2 d s2 nd => ?_⟩⟩⟩⟩
      refine ⟨true, T.em_InvalidMark_InvalidMark, fun _ a na => ?_, fun z => nomatch z⟩
      refine ⟨_, rfl, rfl, _, rfl, T.er_InvalidMark.xf, T.er_InvalidMark.sup.nov, d, _, _, rfl, upd_same, rfl, (by show 2 ≤ sizeLine; decide), fun p np => ?_⟩
      exact ⟨_, rfl, q _ p (((s1.trans s2).trans (same_upd nd)).trans (same_upd np)) (((s1.trans s2).trans (same_upd nd)).free np) upd_same⟩
    · refine ⟨_, rfl, rfl, _, rfl, iteDF (by intro z; cases z) ⟨_, rfl, rfl, _, rfl, iteDF (by intro z; cases z) ⟨_, rfl, rfl, _, rfl, iteDT rfl ⟨_, rfl, _, rfl, _, _, rfl, .inr ⟨hv.same s1, fun H2 d s2 nd => ?_⟩⟩⟩⟩⟩
      refine ⟨true, T.em_InvalidMark_InvalidMark, fun _ a na => ?_, fun z => nomatch z⟩
      refine ⟨_, rfl, rfl, _, rfl, T.er_InvalidMark.xf, T.er_InvalidMark.sup.nov, d, _, _, rfl, upd_same, rfl, (by show 2 ≤ sizeLine; decide), fun p np => ?_⟩
      exact ⟨_, rfl, q _ p (((s1.trans s2).trans (same_upd nd)).trans (same_upd np)) (((s1.trans s2).trans (same_upd nd)).free np) upd_same⟩
    · refine ⟨_, rfl, rfl, _, rfl, iteDF (by intro z; cases z) ⟨_, rfl, rfl, _, rfl, iteDF (by intro z; cases z) ⟨_, rfl, rfl, _, rfl, iteDF (by intro z; cases z) ⟨_, rfl, rfl, _, rfl, iteDT rfl ⟨_, rfl, _, rfl, _, _, rfl, .inr ⟨hv.same s1, fun H2 d s2 nd => ?_⟩⟩⟩⟩⟩⟩
      refine ⟨true, T.em_InvalidMark_InvalidMark, fun _ a na => ?_, fun z => nomatch z⟩
      refine ⟨_, rfl, rfl, _, rfl, T.er_InvalidMark.xf, T.er_InvalidMark.sup.nov, d, _, _, rfl, upd_same, rfl, (by show 2 ≤ sizeLine; decide), fun p np => ?_⟩
      exact ⟨_, rfl, q _ p (((s1.trans s2).trans (same_upd nd)).trans (same_upd np)) (((s1.trans s2).trans (same_upd nd)).free np) upd_same⟩
    · refine ⟨_, rfl, rfl, _, rfl, iteDF (by intro z; cases z) ⟨_, rfl, rfl, _, rfl, iteDF (by intro z; cases z) ⟨_, rfl, rfl, _, rfl, iteDF (by intro z; cases z) ⟨_, rfl, rfl, _, rfl, iteDF (by intro z; cases z) ⟨_, rfl, rfl, _, rfl, iteDT rfl ⟨_, rfl, _, rfl, _, _, rfl, .inr ⟨hv.same s1, fun H2 d s2 nd => ?_⟩⟩⟩⟩⟩⟩⟩
      refine ⟨true, T.em_InvalidMark_InvalidMark, fun _ a na => ?_, fun z => nomatch z⟩
      refine ⟨_, rfl, rfl, _, rfl, T.er_InvalidMark.xf, T.er_InvalidMark.sup.nov, d, _, _, rfl, upd_same, rfl, (by show 2 ≤ sizeLine; decide), fun p np => ?_⟩
      exact ⟨_, rfl, q _ p (((s1.trans s2).trans (same_upd nd)).trans (same_upd np)) (((s1.trans s2).trans (same_upd nd)).free np) upd_same⟩
    · refine ⟨_, rfl, rfl, _, rfl, iteDF (by intro z; cases z) ⟨_, rfl, rfl, _, rfl, iteDF (by intro z; cases z) ⟨_, rfl, rfl, _, rfl, iteDF (by intro z; cases z) ⟨_, rfl, rfl, _, rfl, iteDF (by intro z; cases z) ⟨_, rfl, rfl, _, rfl, iteDF (by intro z; cases z) ⟨_, rfl, _, rfl, _, _, rfl, .inr ⟨hv.same s1, fun H2 d s2 nd => ?_⟩⟩⟩⟩⟩⟩⟩
      refine ⟨true, T.em_InvalidMark_InvalidMark, fun _ a na => ?_, fun z => nomatch z⟩
      refine ⟨_, rfl, rfl, _, rfl, T.er_InvalidMark.xf, T.er_InvalidMark.sup.nov, d, _, _, rfl, upd_same, rfl, (by show 2 ≤ sizeLine; decide), fun p np => ?_⟩
      exact ⟨_, rfl, q _ p (((s1.trans s2).trans (same_upd nd)).trans (same_upd np)) (((s1.trans s2).trans (same_upd nd)).free np) upd_same⟩
  · obtain rfl | rfl : k = 4 ∨ k = 5 := by omega
    · refine ⟨_, rfl, rfl, _, rfl, iteDF (by intro z; cases z) ⟨_, rfl, rfl, _, rfl, iteDF (by intro z; cases z) ⟨_, rfl, rfl, _, rfl, iteDF (by intro z; cases z) ⟨_, rfl, rfl, _, rfl, iteDF (by intro z; cases z) ⟨_, rfl, rfl, _, rfl, iteDT rfl ⟨_, rfl, _, rfl, _, _, rfl, .inl ⟨A, z, rfl, hg, .inr ⟨hu.same s1, fun H2 d s2 nd => ?_⟩⟩⟩⟩⟩⟩⟩⟩
      refine ⟨true, T.em_InvalidMark_InvalidMark, fun _ a na => ?_, fun z => nomatch z⟩
      refine ⟨_, rfl, rfl, _, rfl, T.er_InvalidMark.xf, T.er_InvalidMark.sup.nov, d, _, _, rfl, upd_same, rfl, (by show 2 ≤ sizeLine; decide), fun p np => ?_⟩
      exact ⟨_, rfl, q _ p (((s1.trans s2).trans (same_upd nd)).trans (same_upd np)) (((s1.trans s2).trans (same_upd nd)).free np) upd_same⟩
    · refine ⟨_, rfl, rfl, _, rfl, iteDF (by intro z; cases z) ⟨_, rfl, rfl, _, rfl, iteDF (by intro z; cases z) ⟨_, rfl, rfl, _, rfl, iteDF (by intro z; cases z) ⟨_, rfl, rfl, _, rfl, iteDF (by intro z; cases z) ⟨_, rfl, rfl, _, rfl, iteDF (by intro z; cases z) ⟨_, rfl, _, rfl, _, _, rfl, .inl ⟨A, z, rfl, hg, .inr ⟨hu.same s1, fun H2 d s2 nd => ?_⟩⟩⟩⟩⟩⟩⟩⟩
      refine ⟨true, T.em_InvalidMark_InvalidMark, fun _ a na => ?_, fun z => nomatch z⟩
      refine ⟨_, rfl, rfl, _, rfl, T.er_InvalidMark.xf, T.er_InvalidMark.sup.nov, d, _, _, rfl, upd_same, rfl, (by show 2 ≤ sizeLine; decide), fun p np => ?_⟩
      exact ⟨_, rfl, q _ p (((s1.trans s2).trans (same_upd nd)).trans (same_upd np)) (((s1.trans s2).trans (same_upd nd)).free np) upd_same⟩
  · obtain ⟨h1, h2, hkp⟩ := id hg
    obtain rfl | rfl | rfl | rfl : k = 0 ∨ k = 1 ∨ k = 2 ∨ k = 3 := by omega
    · refine ⟨_, rfl, rfl, _, rfl, iteDT rfl ⟨_, rfl, _, rfl, _, _, rfl, .inl ⟨A, z, rfl, h1, h2, hkp, .inr ⟨hu.same s1, fun H2 d s2 nd => ?_⟩⟩⟩⟩
      refine ⟨false, T.em_InvalidNumber_InvalidMark, (fun z => nomatch z), fun _ => ⟨true, T.em_InvalidNumber_InvalidNumber, fun _ a na => ?_, fun z => nomatch z⟩⟩
      refine ⟨_, rfl, rfl, _, rfl, T.er_InvalidNumber.xf, T.er_InvalidNumber.sup.nov, d, _, _, rfl, upd_same, rfl, (by show 2 ≤ sizeLine; decide), fun p np => ?_⟩
      exact ⟨_, rfl, q _ p (((s1.trans s2).trans (same_upd nd)).trans (same_upd np)) (((s1.trans s2).trans (same_upd nd)).free np) upd_same⟩
    · refine ⟨_, rfl, rfl, _, rfl, iteDF (by intro z; cases z) ⟨_, rfl, rfl, _, rfl, iteDT rfl ⟨_, rfl, _, rfl, _, _, rfl, .inl ⟨A, z, rfl, h1, h2, hkp, .inr ⟨hu.same s1, fun H2 d s2 nd => ?_⟩⟩⟩⟩⟩
      refine ⟨false, T.em_InvalidNumber_InvalidMark, (fun z => nomatch z), fun _ => ⟨true, T.em_InvalidNumber_InvalidNumber, fun _ a na => ?_, fun z => nomatch z⟩⟩
      refine ⟨_, rfl, rfl, _, rfl, T.er_InvalidNumber.xf, T.er_InvalidNumber.sup.nov, d, _, _, rfl, upd_same, rfl, (by show 2 ≤ sizeLine; decide), fun p np => ?_⟩
      exact ⟨_, rfl, q _ p (((s1.trans s2).trans (same_upd nd)).trans (same_upd np)) (((s1.trans s2).trans (same_upd nd)).free np) upd_same⟩
    · refine ⟨_, rfl, rfl, _, rfl, iteDF (by intro z; cases z) ⟨_, rfl, rfl, _, rfl, iteDF (by intro z; cases z) ⟨_, rfl, rfl, _, rfl, iteDT rfl ⟨_, rfl, _, rfl, _, _, rfl, .inl ⟨A, z, rfl, h1, h2, hkp, .inr ⟨hu.same s1, fun H2 d s2 nd => ?_⟩⟩⟩⟩⟩⟩
      refine ⟨false, T.em_InvalidNumber_InvalidMark, (fun z => nomatch z), fun _ => ⟨true, T.em_InvalidNumber_InvalidNumber, fun _ a na => ?_, fun z => nomatch z⟩⟩
      refine ⟨_, rfl, rfl, _, rfl, T.er_InvalidNumber.xf, T.er_InvalidNumber.sup.nov, d, _, _, rfl, upd_same, rfl, (by show 2 ≤ sizeLine; decide), fun p np => ?_⟩
      exact ⟨_, rfl, q _ p (((s1.trans s2).trans (same_upd nd)).trans (same_upd np)) (((s1.trans s2).trans (same_upd nd)).free np) upd_same⟩
    · refine ⟨_, rfl, rfl, _, rfl, iteDF (by intro z; cases z) ⟨_, rfl, rfl, _, rfl, iteDF (by intro z; cases z) ⟨_, rfl, rfl, _, rfl, iteDF (by intro z; cases z) ⟨_, rfl, rfl, _, rfl, iteDT rfl ⟨_, rfl, _, rfl, _, _, rfl, .inl ⟨A, z, rfl, h1, h2, hkp, .inr ⟨hu.same s1, fun H2 d s2 nd => ?_⟩⟩⟩⟩⟩⟩⟩
      refine ⟨false, T.em_InvalidNumber_InvalidMark, (fun z => nomatch z), fun _ => ⟨true, T.em_InvalidNumber_InvalidNumber, fun _ a na => ?_, fun z => nomatch z⟩⟩
      refine ⟨_, rfl, rfl, _, rfl, T.er_InvalidNumber.xf, T.er_InvalidNumber.sup.nov, d, _, _, rfl, upd_same, rfl, (by show 2 ≤ sizeLine; decide), fun p np => ?_⟩
      exact ⟨_, rfl, q _ p (((s1.trans s2).trans (same_upd nd)).trans (same_upd np)) (((s1.trans s2).trans (same_upd nd)).free np) upd_same⟩
end
end My

namespace My
open PySem PySem.Spec PyProof.Rows L2 Pre
theorem mostG_le {A : List Bool} {z : Bool} (h : 1 ≤ A.length) (n : Nat) : mostG A z n ≤ n := by
  unfold mostG
  by_cases c : n < A.length
  · rw [if_pos c]; exact Nat.zero_le _
  · rw [if_neg c]
    have := Nat.div_le_self (n - A.length) (A.length - beh A z)
    omega
local macro_rules | `(tactic| walk_at "go") => `(tactic| repeat (first | (with_reducible first | refine iteT ?_ | refine iteF ?_ | refine iteNtt ?_ | refine iteNff ?_ | refine iteET (by omega) ?_ | refine iteEF (by omega) ?_ | refine iteENT (by omega) ?_ | refine iteENF (by omega) ?_ | refine iteDT (by omega) ?_ | refine iteDF (by omega) ?_ | refine iteNT (by omega) ?_ | refine iteNF (by omega) ?_) | refine ⟨_, rfl, ?_⟩ | refine ⟨_, _, rfl, rfl, ?_⟩ | refine ⟨_, _, rfl, ?_⟩ | refine ⟨rfl, ?_⟩ | refine .inl ⟨_, rfl, ?_⟩ | refine .inr ⟨_, rfl, ?_⟩))
local macro_rules | `(tactic| walk_at "b") => `(tactic| try dsimp (config := { proj := false, iota := false, eta := false, zeta := false }) only)
section
variable {P : Program} {w : World} {K : PySem.W.Frag} {mg : Str → Option Value} {base : Heap} [pf : Sup.PF P fileS]
def sp_law_small_right : Sp := fun vs H Q _ => ∃ (A : List Bool) (z : Bool) (n : Nat), vs = [.str (bS (A ++ [z])), .int n] ∧ GoodM A z ∧ n ≤ 10 ∧ ∀ H', Same H H' → Q (.bl true) H'
theorem G_law_small_right (T : Top K mg) : FnOk P w K mg base CX0 7 T.f_law_small_right T.fd_law_small_right ["_law_mark_here", "_law_many"] sp_law_small_right := by
  refine T.F_law_small_right.ok sc_law_small_right (fun vs H Q E h => by obtain ⟨A, z, n, rfl, _⟩ := h; rfl) (fun cdv A outer s H vs Q E hr h => ?_)
  obtain ⟨A, z, n, rfl, hg, hn, q⟩ := h
  refine ⟨_, PSs.nox (pss_cons (ps_set (i := 2) sc_law_small_right.nd rfl (by first | exact Or.inl rfl | exact Or.inr rfl) (pe_call (G_law_counts (P := P) T) (hr.mono (by decide)) (by rfl) T.g_law_counts T.F_law_counts.kp T.b_law_counts .nil pass0 (pa_cons (pv 0) (pa_cons (pv 1) pa_nil))))
  (pss_cons (ps_set (i := 3) sc_law_small_right.nd rfl (by first | exact Or.inl rfl | exact Or.inr rfl) (pe_callKO (G_growths (P := P) T) (hr.mono (by decide)) (by rfl) T.g_growths T.F_growths.kp (FunD.kbindsN T.F_growths ["many", "mark"] sw2 sw2_rel (fun _ _ _ _ _ _ ws hl => match ws, hl with | [_, _], _ => rfl)) passL (pk_cons (pv 1) (pk_cons (pv 0) pk_nil))))
  (pss_cons (ps_if (PW.pt (pw_or (pt_cmpR (k_neD K rfl hr.units) (pv 3) (pv 2) (nomark _)) (pw_or1 (pt_cmpR op_ne (pe_call (G_most_growth (P := P) T) (hr.mono (by decide)) (by rfl) T.g_most_growth T.F_most_growth.kp T.b_most_growth .nil passL (pa_cons (pv 0) (pa_cons (pv 1) pa_nil))) (pe_op op_sub (pe_callB (k_len K rfl) (by rfl) T.n_len (by decide +kernel) (pa_cons (pv 2) pa_nil)) pe_int) (nomark _)))))
    (pss_one (ps_ret pe_bl))
    pss_nil)
  (pss_cons (ps_expr (pe_bm PySem.F.plainAttrs_list PySem.F.slot_list_append PySem.F.type_list_append mt_append (pv 3) (pa_cons pe_int pa_nil)))
  (pss_cons (ps_set (i := 4) sc_law_small_right.nd rfl (by first | exact Or.inl rfl | exact Or.inr rfl) (pe_call (G_most_row (P := P) T) (hr.mono (by decide)) (by rfl) T.g_most_row T.F_most_row.kp T.b_most_row .nil passL (pa_cons (pv 0) (pa_cons (pv 1) pa_nil))))
  (pss_cons (ps_if (PW.pt (pw_or (pt_cmpR op_ne (pe_callB call_len_str (by rfl) T.n_len (by decide +kernel) (pa_cons (pv 4) pa_nil)) (pv 1) (nomark _)) (pw_or (pt_cmpR op_ne (pe_call (G_law_grown (P := P) T) (hr.mono (by decide)) (by rfl) T.g_law_grown T.F_law_grown.kp T.b_law_grown .nil pass0 (pa_cons (pv 0) (pa_cons (pv 4) pa_nil))) (pe_op op_sub (pe_callB (k_len K rfl) (by rfl) T.n_len (by decide +kernel) (pa_cons (pv 2) pa_nil)) pe_int) (nomark _)) (pw_or1 (pt_cmpR (k_neD K rfl hr.units) (pe_call (G_growths (P := P) T) (hr.mono (by decide)) (by rfl) T.g_growths T.F_growths.kp T.b_growths .nil passL (pa_cons (pv 0) (pa_cons (pv 1) pa_nil))) (pv 2) (nomark _))))))
    (pss_one (ps_ret pe_bl))
    pss_nil)
  (pss_one (ps_ret (pe_cmpR op_eq (pe_call (G_sum_growth (P := P) T) (hr.mono (by decide)) (by rfl) T.g_sum_growth T.F_sum_growth.kp T.b_sum_growth .nil passL (pa_cons (pv 0) (pa_cons (pv 1) pa_nil))) (pe_callB (k_sum K rfl rfl) (by rfl) T.n_sum (by decide +kernel) (pa_cons (pe_lc (own := [("_law_grown_here", 5), ("_law_number", 6)]) (g := gTup K 2 (gCons (gName 5) (gCons (gName 6) (gNil)))) (tt := tYes) (by rfl) sc_law_small_right.nd (k_piE K rfl (by rfl) T.n_enumerate (pa_cons (pv 2) pa_nil)) (blkOk_by (own := [("_law_grown_here", 5), ("_law_number", 6)]) (N := N_law_small_right) (sc := defScope s_law_small_right) (by decide +kernel)) (fun _ _ _ _ _ => (k_pgT K rfl (by rfl) (pgs_cons (pg_name (i := 5) sc_law_small_right.nd rfl (by first | exact Or.inl rfl | exact Or.inr rfl)) (pgs_cons (pg_name (i := 6) sc_law_small_right.nd rfl (by first | exact Or.inl rfl | exact Or.inr rfl)) pgs_nil)))) (fun _ _ _ _ _ => pts_nil) (fun _ _ _ _ _ => (pe_op op_mul (pv 5) (pv 6)))) pa_nil)) (nomark _)))))))))), ?_⟩
  obtain ⟨h1, h2, hk⟩ := id hg
  refine ⟨_, rfl, _, rfl, A, z, n, rfl, by omega, hn, fun H1 p L s1 np hp hL => ?_⟩
  have hlen := counts_len hk hL
  refine ⟨_, rfl, _, rfl, rfl, _, _, rfl, .inl ⟨A, z, rfl, h1, h2, hk, .inl ⟨n, rfl, by omega, fun H2 p2 L2' s2 np2 hp2 hL2 => ?_⟩⟩⟩
  obtain rfl := hL2.uniq hL
  refine ⟨_, rfl, _, rfl, ?_⟩
  refine neD_lst (ns := nI L2') (ms := nI L2') (.inl (.inl hp2)) (.inl (.inl (s2 _ _ hp))) ⟨_, rfl, ?_⟩
  rw [decide_eq_true rfl]
  refine iteF ?_
  refine ⟨_, rfl, _, rfl, _, _, rfl, .inl ⟨A, z, rfl, h1, h2, hk, .inl ⟨n, rfl, by omega, fun H3 s3 => ?_⟩⟩⟩
  have hp3 := s3 _ _ (s2 _ _ hp)
  have hlI : ((((nI L2').map V.int).length : Nat) : Int) - 1 = ((mostG A z n : Nat) : Int) := by rw [nI_len, hlen]; omega
  refine ⟨_, rfl, p, _, rfl, .inl (.inl (.inl hp3)), _, _, rfl, rfl, rfl, _, rfl, ?_⟩
  dsimp only
  rw [decide_eq_true (congrArg V.int hlI.symm)]
  refine iteF ?_
  have hmg : mostG A z n ≤ n := mostG_le h1 n
  have hlen2 : L2'.length ≤ 11 := by omega
  have hp23 : H3 p2 = some (.lst ((nI L2').map V.int)) := s3 _ _ hp2
  refine ⟨_, rfl, .inl ⟨rfl, _, .inl (.inl hp23)⟩, p2, _, _, rfl, rfl, hp23, by rw [nI_len]; exact small4 (by omega), ?_⟩
  have s14 : Same H1 (upd H3 p2 (.lst ((nI L2').map V.int ++ [V.int 0]))) := same_over np2 (s2.trans s3)
  dsimp only
  generalize upd H3 p2 (.lst ((nI L2').map V.int ++ [V.int 0])) = H4 at *
  refine ⟨_, rfl, _, rfl, _, _, rfl, .inl ⟨A, z, rfl, h1, h2, hk, .inl ⟨n, rfl, by omega, fun H5 j s5 hj => ?_⟩⟩⟩
  have hrl : ((mostR A z j).take n).length = n := by rw [List.length_take]; omega
  have hrg : grA A z ((mostR A z j).take n) = mostG A z n := mostR_take hk hj
  generalize (mostR A z j).take n = R at *
  have hp5 := s5 _ _ (s14 _ _ hp)
  refine ⟨_, rfl, _, rfl, by rw [bS_len, hrl, sizeLine_eq]; omega, _, rfl, rfl, _, rfl, ?_⟩
  rw [bS_len, hrl, decide_eq_true rfl]
  refine iteF ?_
  refine ⟨_, rfl, _, rfl, A, z, R, rfl, by omega, by omega, ?_⟩
  refine ⟨_, rfl, p, _, rfl, .inl (.inl (.inl hp5)), _, _, rfl, rfl, rfl, _, rfl, ?_⟩
  dsimp only
  rw [hrg, decide_eq_true (congrArg V.int hlI.symm)]
  refine iteF ?_
  refine ⟨_, rfl, _, rfl, _, _, rfl, .inl ⟨A, z, rfl, h1, h2, hk, .inl ⟨n, rfl, by omega, fun H6 p6 L6 s6 np6 hp6 hL6 => ?_⟩⟩⟩
  obtain rfl := hL6.uniq hL
  refine ⟨_, rfl, ?_⟩
  refine neD_lst (ns := nI L6) (ms := nI L6) (.inl (.inl hp6)) (.inl (.inl (s6 _ _ hp5))) ⟨_, rfl, ?_⟩
  rw [decide_eq_true rfl]
  refine iteF ?_
  refine ⟨_, rfl, _, rfl, _, _, rfl, .inl ⟨A, z, rfl, h1, h2, hk, .inl ⟨n, rfl, by omega, fun H7 s7 => ?_⟩⟩⟩
  have hp7 := s7 _ _ (s6 _ _ hp5)
  refine ⟨_, rfl, p, _, rfl, .inl (.inl hp7), fun D nD => ?_⟩
  refine lc_dW (walk_enum (K := K) (a := p) (xs := (nI L6).map V.int)) (Has.nil (H := H7)) ((List.range L6.length).map fun i => some (PyData.int ((i * L6.getD i 0 : Nat) : Int))) nD (by rw [List.length_map, List.length_range, nI_len]) (by rw [nI_len]; exact small4 (by omega)) (fun H' s => .inl (.inl (s _ _ hp7))) ?_ ?_
  · rintro i o H0 x H' hi ho s0 hS ⟨T1, y1, z1, rfl, nT, rfl, e1, ez1⟩ Qt qt
    cases e1
    obtain ⟨m, hm, rfl⟩ := nI_at ez1
    have il : i < L6.length := (List.getElem?_eq_some_iff.mp hm).1
    rw [List.getElem?_map, List.getElem?_range il] at ho
    cases ho
    have egd : L6.getD i 0 = m := by rw [List.getD_eq_getElem?_getD, hm]; rfl
    dsimp only at qt
    rw [egd] at qt
    refine ⟨T1, _, rfl, .inl (.inl upd_same), rfl, _, _, rfl, _, _, rfl, rfl, rfl, ?_⟩
    unfold tYes
    dsimp only
    rw [if_pos (show true = true from rfl)]
    refine ⟨_, rfl, _, rfl, _, _, rfl, rfl, .inl ⟨by omega, by omega⟩, ?_⟩
    exact qt (some (.int ((i : Int) * (m : Int)))) _ (same_upd nT) (by rw [← Int.natCast_mul]; exact .int _)
  · intro H8 s8 hD hd
    rw [rs_nil, sel_map] at hd
    obtain ⟨_, xs, e, hxs, hx⟩ := hd.listE
    cases e
    have hx2 : DtA H8 xs ((nI (places L6)).map PyData.int) := by
      have e2 : ((List.range L6.length).map fun i => PyData.int ((i * L6.getD i 0 : Nat) : Int)) = (nI (places L6)).map PyData.int := by
        unfold nI places
        rw [List.map_map, List.map_map]
        rfl
      rw [← e2]
      exact hx
    rw [DtA.intsE hx2] at hxs
    refine ⟨D, nI (places L6), rfl, .inl (.inl hxs), rfl, ?_⟩
    rw [nI_sum, (counts_sums hk hL6).2, decide_eq_true rfl]
    exact q _ ((s1.trans s14).trans (((s5.trans s6).trans s7).trans s8))
end
end My

namespace My
open PySem PySem.Spec PyProof.Rows L2 Pre
/-! ### the law of growth: what is refused -/
/-- what is shown of a thing -/
def Shw (K : PySem.W.Frag) (H : Hp) (x : V) (t : Str) : Prop := (∃ d, Dp K H x d ∧ d.showable = true ∧ SeqAt.shaped d = true ∧ d.shown.length ≤ sizeLine ∧ t = d.shown) ∨ ∃ a : Addr, x = .ref a ∧ H a = some (.dK []) ∧ t = (PyData.dict []).shown
theorem Shw.same {K : PySem.W.Frag} {H H' : Hp} {x : V} {t : Str} (s : Same H H') (h : Shw K H x t) : Shw K H' x t := by
  rcases h with ⟨d, hd, h⟩ | ⟨a, e, ha, h⟩
  · exact .inl ⟨d, Pre.dp_same s _ _ hd, h⟩
  · exact .inr ⟨a, e, s _ _ ha, h⟩
theorem Shw.repr {K : PySem.W.Frag} {H : Hp} {x : V} {t : Str} {Q : VK} (h : Shw K H x t) (q : Q (.str t) H) : rReprX K [x] H Q := by
  rcases h with ⟨d, hd, h1, h2, h3, rfl⟩ | ⟨a, rfl, ha, rfl⟩
  · exact .inl ⟨x, d, rfl, hd, h1, h2, h3, q⟩
  · exact .inr ⟨a, rfl, ha, q⟩
/-- a pair that tells what was refused -/
def Told (tag : Str) (x : V) (D : Addr) (y : V) (H : Hp) : Prop := ∃ a : Addr, y = .ref a ∧ a ≠ D ∧ H a = some (.lst [.str tag, x])
theorem Told.mono {tag : Str} {x y : V} {D : Addr} {H H' : Hp} (o : Off D H H') (h : Told tag x D y H) : Told tag x D y H' := by
  obtain ⟨a, e, n, ha⟩ := h
  exact ⟨a, e, n, o _ _ n ha⟩
theorem at1 {α : Type} (x y : α) (r : List α) : atI (x :: y :: r) 1 = some y := atI_nat (xs := x :: y :: r) (j := 1) rfl
theorem shw_str {K : PySem.W.Frag} {H : Hp} (x : Str) (h1 : (PyData.str x).showable = true := by decide +kernel) (h2 : SeqAt.shaped (.str x) = true := by decide +kernel) (h3 : (PyData.str x).shown.length ≤ sizeLine := by decide +kernel) : ∃ t, Shw K H (.str x) t := ⟨_, .inl ⟨.str x, .str x, h1, h2, h3, rfl⟩⟩
theorem shw_non {K : PySem.W.Frag} {H : Hp} : ∃ t, Shw K H .non t := ⟨_, .inl ⟨.none, .non, by decide +kernel, by decide +kernel, by decide +kernel, rfl⟩⟩
theorem shw_bl {K : PySem.W.Frag} {H : Hp} : ∃ t, Shw K H (.bl true) t := ⟨_, .inl ⟨.bool true, .bl true, by decide +kernel, by decide +kernel, by decide +kernel, rfl⟩⟩
theorem shw_int {K : PySem.W.Frag} {H : Hp} (i : Int) (h1 : (PyData.int i).showable = true := by decide +kernel) (h2 : SeqAt.shaped (.int i) = true := by decide +kernel) (h3 : (PyData.int i).shown.length ≤ sizeLine := by decide +kernel) : ∃ t, Shw K H (.int i) t := ⟨_, .inl ⟨.int i, .int i, h1, h2, h3, rfl⟩⟩
theorem bad_marks {K : PySem.W.Frag} {H : Hp} {l : Addr} (hl : H l = some (.lst [V.str (("1" : String) : Str)])) :
    ∀ x ∈ [V.non, .int 0, .str (("" : String) : Str), .str (("1" : String) : Str), .str (Txt.mul (("2" : String) : Str) (3 : Nat)), .str (("10" : String) : Str), .str (("110" : String) : Str), .ref l, .bl true], BadM K H x ∧ ∃ t, Shw K H x t := by
  intro x hx
  simp only [List.mem_cons, List.not_mem_nil, or_false] at hx
  rcases hx with rfl | rfl | rfl | rfl | rfl | rfl | rfl | rfl | rfl
  · exact ⟨.inl (.inr ⟨.inr ⟨_, .base .non, by decide +kernel⟩, rfl⟩), shw_non⟩
  · exact ⟨.inl (.inr ⟨.inr ⟨_, .base (.int 0), by decide +kernel⟩, rfl⟩), shw_int 0⟩
  · exact ⟨.inl (.inl ⟨[], congrArg V.str str_nil, by decide, by decide⟩), shw_str _⟩
  · exact ⟨.inl (.inl ⟨[true], congrArg V.str str_one, by decide, by decide⟩), shw_str _⟩
  · exact ⟨.inl (.inr ⟨.inl ⟨_, rfl, by decide +kernel, by decide +kernel, 1, 50, by decide +kernel, by decide +kernel⟩, rfl⟩), shw_str _⟩
  · exact ⟨.inr ⟨[true], false, congrArg V.str str_10, by decide, by decide, rfl⟩, shw_str _⟩
  · exact ⟨.inr ⟨[true, true], false, congrArg V.str (by decide +kernel), by decide, by decide, rfl⟩, shw_str _⟩
  · exact ⟨.inl (.inr ⟨.inr ⟨_, .base (.lst hl), by decide +kernel⟩, rfl⟩), _, .inl ⟨.list [.str (("1" : String) : Str)], .lst (.inl (.inl hl)) (strs_dp [(("1" : String) : Str)]), by decide +kernel, by decide +kernel, by decide +kernel, rfl⟩⟩
  · exact ⟨.inl (.inr ⟨.inr ⟨_, .base (.bl true), by decide +kernel⟩, rfl⟩), shw_bl⟩
/-- the four ways with their greatest numbers -/
def waysL : List (Nat × Int) := [(0, 10 ^ 18), (1, 4000), (2, 60), (3, 300)]
theorem ways_hi : ∀ p ∈ waysL, p.1 < 4 ∧ p.2 = wayHi p.1 ∧ 0 ≤ p.2 ∧ p.2 ≤ 10 ^ 18 := by
  intro p hp
  simp only [waysL, List.mem_cons, List.not_mem_nil, or_false] at hp
  rcases hp with rfl | rfl | rfl | rfl <;> exact ⟨by decide, rfl, by decide, by decide⟩
theorem bad_nums {K : PySem.W.Frag} {H : Hp} {l u : Addr} {k : Nat} {m : Int} (hp : (k, m) ∈ waysL) (hl : H l = some (.lst [V.int 2])) (hu : H u = some (.tup [V.int 3, V.int 1])) :
    ∀ x ∈ [V.non, .str (("1" : String) : Str), .int (-1), .int (m + 1), .bl true, .ref l, .ref u], NumV K H x 0 (some (wayHi k)) false ∧ ∃ t, Shw K H x t := by
  obtain ⟨_, e, _, _⟩ := ways_hi _ hp
  dsimp only at e
  intro x hx
  simp only [List.mem_cons, List.not_mem_nil, or_false] at hx
  rcases hx with rfl | rfl | rfl | rfl | rfl | rfl | rfl
  · exact ⟨.inr ⟨.inr ⟨_, .base .non, by decide +kernel⟩, rfl⟩, shw_non⟩
  · exact ⟨.inr ⟨.inr ⟨_, .base (.str _), by decide +kernel⟩, rfl⟩, shw_str _⟩
  · exact ⟨.inl ⟨-1, rfl, (decide_eq_false fun z => absurd z.1 (by decide)).symm⟩, shw_int (-1)⟩
  · refine ⟨.inl ⟨m + 1, rfl, (decide_eq_false fun z => ?_).symm⟩, ?_⟩
    · have := z.2 _ rfl
      omega
    · simp only [waysL, List.mem_cons, List.not_mem_nil, or_false, Prod.mk.injEq] at hp
      rcases hp with ⟨_, rfl⟩ | ⟨_, rfl⟩ | ⟨_, rfl⟩ | ⟨_, rfl⟩
      · exact shw_int _
      · exact shw_int _
      · exact shw_int _
      · exact shw_int _
  · exact ⟨.inr ⟨.inl ⟨true, rfl⟩, rfl⟩, shw_bl⟩
  · exact ⟨.inr ⟨.inr ⟨_, .base (.lst hl), by decide +kernel⟩, rfl⟩, _, .inl ⟨.list [.int 2], .lst (.inl (.inl hl)) (Pre.dp_ints [2]), by decide +kernel, by decide +kernel, by decide +kernel, rfl⟩⟩
  · exact ⟨.inr ⟨.inr ⟨_, .base (.tup hu), by decide +kernel⟩, rfl⟩, _, .inl ⟨.tuple [.int 3, .int 1], .tup (.inl (.inl hu)) (Pre.dp_ints [3, 1]), by decide +kernel, by decide +kernel, by decide +kernel, rfl⟩⟩
local macro_rules | `(tactic| walk_at "go") => `(tactic| repeat (first | (with_reducible first | refine iteT ?_ | refine iteF ?_ | refine iteNtt ?_ | refine iteNff ?_ | refine iteET (by omega) ?_ | refine iteEF (by omega) ?_ | refine iteENT (by omega) ?_ | refine iteENF (by omega) ?_ | refine iteDT (by omega) ?_ | refine iteDF (by omega) ?_ | refine iteNT (by omega) ?_ | refine iteNF (by omega) ?_) | refine ⟨_, rfl, ?_⟩ | refine ⟨_, _, rfl, rfl, ?_⟩ | refine ⟨_, _, rfl, ?_⟩ | refine ⟨rfl, ?_⟩ | refine .inl ⟨_, rfl, ?_⟩ | refine .inr ⟨_, rfl, ?_⟩))
local macro_rules | `(tactic| walk_at "b") => `(tactic| try dsimp (config := { proj := false, iota := false, eta := false, zeta := false }) only)
section
variable {P : Program} {w : World} {K : PySem.W.Frag} {mg : Str → Option Value} {base : Heap} [pf : Sup.PF P fileS]
def sp_law_refused : Sp := fun vs H Q _ => ∃ (A : List Bool) (z : Bool), vs = [.str (bS (A ++ [z]))] ∧ GoodM A z ∧ ∀ H', Same H H' → Q (.bl true) H'
theorem G_law_refused (T : Top K mg) : FnG P w K mg base CX0 9 T.f_law_refused T.fd_law_refused ["_law_mark_here"] sp_law_refused := by
  refine FnG.body T.F_law_refused sc_law_refused (fun vs H Q E h => by obtain ⟨A, z, rfl, _⟩ := h; rfl) (fun cdv A outer s H vs Q E gd hr h => ?_)
  obtain ⟨A, z, rfl, hg, q⟩ := h
  refine ⟨_, PSs.nox (pss_cons (ps_for PassesOwn.never rfl (k_piL K rfl (pe_lst (pa_cons pe_non (pa_cons pe_int (pa_cons pe_str (pa_cons pe_str (pa_cons (pe_op op_rep_str pe_str pe_int) (pa_cons pe_str (pa_cons pe_str (pa_cons (pe_lst (pa_cons pe_str pa_nil)) (pa_cons pe_bl pa_nil))))))))))) (pg_name (i := 1) sc_law_refused.nd rfl (by first | exact Or.inl rfl | exact Or.inr rfl))
    (pss_cons (ps_set (i := 2) sc_law_refused.nd rfl (by first | exact Or.inl rfl | exact Or.inr rfl) (pe_op op_cat (pe_lc (own := [("_law_way", 3)]) (g := gName 3) (tt := tYes) (by rfl) sc_law_refused.nd (pi_range1 (by rfl) T.n_range (pa_cons pe_int pa_nil)) (blkOk_by (own := [("_law_way", 3)]) (N := N_law_refused) (sc := defScope s_law_refused) (by decide +kernel)) (fun _ _ _ _ _ => (pg_name (i := 3) sc_law_refused.nd rfl (by first | exact Or.inl rfl | exact Or.inr rfl))) (fun _ _ _ _ _ => pts_nil) (fun _ _ _ _ _ => (pe_call (G_law_caught (P := P) T) (hr.mono (by decide)) (by rfl) T.g_law_caught T.F_law_caught.kp T.b_law_caught .nil pass0 (pa_cons (pv 3) (pa_cons (pv 1) (pa_cons pe_non pa_nil)))))) (pe_lc (own := [("_law_way", 3)]) (g := gName 3) (tt := tYes) (by rfl) sc_law_refused.nd (k_piL K rfl (pe_lst (pa_cons pe_int (pa_cons pe_int pa_nil)))) (blkOk_by (own := [("_law_way", 3)]) (N := N_law_refused) (sc := defScope s_law_refused) (by decide +kernel)) (fun _ _ _ _ _ => (pg_name (i := 3) sc_law_refused.nd rfl (by first | exact Or.inl rfl | exact Or.inr rfl))) (fun _ _ _ _ _ => pts_nil) (fun _ _ _ _ _ => (pe_call (G_law_caught (P := P) T) (hr.mono (by decide)) (by rfl) T.g_law_caught T.F_law_caught.kp T.b_law_caught .nil pass0 (pa_cons (pv 3) (pa_cons (pv 0) (pa_cons (pv 1) pa_nil))))))))
  (pss_one (ps_if (pt_cmpR (k_neD K rfl hr.units) (pe_lc (own := [("_law_one", 5)]) (g := gName 5) (by rfl) sc_law_refused.nd (k_piL K rfl (pv 2)) (blkOk_by (own := [("_law_one", 5)]) (N := N_law_refused) (sc := defScope s_law_refused) (by decide +kernel)) (fun _ _ _ _ _ => (pg_name (i := 5) sc_law_refused.nd rfl (by first | exact Or.inl rfl | exact Or.inr rfl))) (fun _ _ _ _ _ => (pts_one (PW.pt (pw_or (pt_cmpR op_ne (pe_ix (k_ixL K rfl) (pv 5) pe_int (fun _ _ => rfl)) pe_str (nomark _)) (pw_or1 (pt_cmpR op_ne (pe_callB (k_reprX K rfl gd (hu65 hr)) (by rfl) T.n_repr (by decide +kernel) (pa_cons (pe_ix (k_ixL K rfl) (pv 5) pe_int (fun _ _ => rfl)) pa_nil)) (pe_callB (k_reprX K rfl gd (hu65 hr)) (by rfl) T.n_repr (by decide +kernel) (pa_cons (pv 1) pa_nil)) (nomark _))))))) (fun _ _ _ _ _ => (pv 5))) (pe_lst pa_nil) (nomark _))
    (pss_one (ps_ret pe_bl))
    pss_nil))))
  (pss_cons (ps_for PassesOwn.never rfl (k_piL K rfl (pe_lst (pa_cons (pe_tup (pa_cons pe_int (pa_cons (pe_op op_powW pe_int pe_int) pa_nil))) (pa_cons (pe_tup (pa_cons pe_int (pa_cons pe_int pa_nil))) (pa_cons (pe_tup (pa_cons pe_int (pa_cons pe_int pa_nil))) (pa_cons (pe_tup (pa_cons pe_int (pa_cons pe_int pa_nil))) pa_nil)))))) (k_pgT K rfl (by rfl) (pgs_cons (pg_name (i := 3) sc_law_refused.nd rfl (by first | exact Or.inl rfl | exact Or.inr rfl)) (pgs_cons (pg_name (i := 4) sc_law_refused.nd rfl (by first | exact Or.inl rfl | exact Or.inr rfl)) pgs_nil)))
    (pss_one (ps_for PassesOwn.never rfl (k_piL K rfl (pe_lst (pa_cons pe_non (pa_cons pe_str (pa_cons (pe_un un_neg pe_int) (pa_cons (pe_op op_add (pv 4) pe_int) (pa_cons pe_bl (pa_cons (pe_lst (pa_cons pe_int pa_nil)) (pa_cons (pe_tup (pa_cons pe_int (pa_cons pe_int pa_nil))) pa_nil))))))))) (pg_name (i := 1) sc_law_refused.nd rfl (by first | exact Or.inl rfl | exact Or.inr rfl))
    (pss_cons (ps_set (i := 2) sc_law_refused.nd rfl (by first | exact Or.inl rfl | exact Or.inr rfl) (pe_call (G_law_caught (P := P) T) (hr.mono (by decide)) (by rfl) T.g_law_caught T.F_law_caught.kp T.b_law_caught .nil pass0 (pa_cons (pv 3) (pa_cons (pv 0) (pa_cons (pv 1) pa_nil)))))
  (pss_one (ps_if (PW.pt (pw_or (pt_cmpR op_ne (pe_ix (k_ixL K rfl) (pv 2) pe_int (fun _ _ => rfl)) pe_str (nomark _)) (pw_or1 (pt_cmpR op_ne (pe_callB (k_reprX K rfl gd (hu65 hr)) (by rfl) T.n_repr (by decide +kernel) (pa_cons (pe_ix (k_ixL K rfl) (pv 2) pe_int (fun _ _ => rfl)) pa_nil)) (pe_callB (k_reprX K rfl gd (hu65 hr)) (by rfl) T.n_repr (by decide +kernel) (pa_cons (pv 1) pa_nil)) (nomark _)))))
    (pss_one (ps_ret pe_bl))
    pss_nil))))))
  (pss_one (ps_ret pe_bl)))), ?_⟩
  refine ⟨_, 3, rfl, rfl, (by decide), (by decide), (by show 1 ≤ sizeLine; decide), fun l1 nl1 => ?_⟩
  obtain ⟨H1, e1, s1, hl1⟩ := fresh (.lst [V.str (("1" : String) : Str)]) nl1
  rw [e1]
  refine ⟨(by show 9 ≤ sizeLine; decide), fun L1 nL1 => ?_⟩
  obtain ⟨H2, e2, s2, hL1⟩ := fresh (.lst [V.non, .int 0, .str (("" : String) : Str), .str (("1" : String) : Str), .str (Txt.mul (("2" : String) : Str) (3 : Nat)), .str (("10" : String) : Str), .str (("110" : String) : Str), .ref l1, .bl true]) nL1
  rw [e2]
  have f1 := bad_marks (K := K) (s2 _ _ hl1)
  refine ⟨L1, rfl, ⟨_, .inl (.inl hL1)⟩, for_list (K := K) (a := L1) (fun i σ HA => ∃ v1 v2 : Option V, σ = [some (.str (bS (A ++ [z]))), v1, v2, none, none, none] ∧ Same H2 HA) ⟨none, none, rfl, Same.refl _⟩ (fun i σ HA _ ⟨_, _, _, s⟩ => .inl (.inl (s _ _ hL1))) ?_ ?_⟩
  · rintro i x σ HA hx ⟨v1, v2, rfl, sA⟩
    obtain ⟨hB, t, hS⟩ := f1 x (List.mem_of_getElem? hx)
    refine ⟨_, rfl, (by decide), (by decide), fun D nD => ?_⟩
    refine lc_relR (lo := 0) (n := ((6 : Int)).toNat) (fun _ y H => Told (("mark" : String) : Str) x D y H) nD (by decide) (fun _ _ _ _ o h => h.mono o) (fun x => rfl) ?_ ?_
    · intro j HB ys hj sB hDB Qt qt
      rw [Int.zero_add]
      have hj6 : j < 6 := hj
      exact ⟨_, rfl, _, rfl, j, x, .non, rfl, hj6, .inl ⟨x, .inl ⟨(hB.same sA).same sB, rfl⟩, fun HE a sE na ha => qt _ _ sE ⟨a, rfl, (ne_of_none hDB na).symm, ha⟩⟩⟩
    · intro HC ys sC hDC hlC hRC
      refine ⟨(by show 2 ≤ sizeLine; decide), fun L2 nL2 => ?_⟩
      obtain ⟨HD, eD, sD, hL2⟩ := fresh (.lst [V.int 4, V.int 5]) nL2
      rw [eD]
      refine ⟨L2, rfl, ⟨_, .inl (.inl hL2)⟩, fun D2 nD2 => ?_⟩
      refine lc_relL (K := K) (xs := [V.int 4, V.int 5]) (fun _ y H => Told (("mark" : String) : Str) x D2 y H) nD2 (.inl (.inl hL2)) (by show 2 < sizeLine; decide) (fun _ _ _ _ o h => h.mono o) (fun x => rfl) ?_ ?_
      · intro j y HE ys hy sE hDE Qt qt
        obtain ⟨k, rfl, hk4, hk6⟩ : ∃ k : Nat, y = .int k ∧ 4 ≤ k ∧ k < 6 := by
          match j, hy with
          | 0, hy => cases hy; exact ⟨4, rfl, by decide, by decide⟩
          | 1, hy => cases hy; exact ⟨5, rfl, by decide, by decide⟩
          | j + 2, hy => simp at hy
        exact ⟨_, rfl, _, rfl, _, rfl, k, _, x, rfl, hk6, .inl ⟨x, .inr ⟨A, z, rfl, hg, hk4, (((hB.same sA).same sC).same sD).same sE, rfl⟩, fun HF a sF na ha => qt _ _ sF ⟨a, rfl, (ne_of_none hDE na).symm, ha⟩⟩⟩
      · intro HF ys2 sF hDF hlF hRF
        have hDF1 : HF D = some (.lst ys) := sF _ _ (sD _ _ hDC)
        have hl6 : ys.length = 6 := hlC
        have hl2 : ys2.length = 2 := hlF
        refine ⟨D, D2, _, _, rfl, rfl, hDF1, hDF, by rw [hl6, hl2]; decide, fun p np => ?_⟩
        obtain ⟨HG, eG, sG, hp⟩ := fresh (.lst (ys ++ ys2)) np
        rw [eG]
        have hall : ∀ (k : Nat) (y : V), (ys ++ ys2)[k]? = some y → ∃ a : Addr, y = .ref a ∧ HG a = some (.lst [.str (("mark" : String) : Str), x]) := by
          intro k y hy
          rcases List.mem_append.mp (List.mem_of_getElem? hy) with hm | hm
          · obtain ⟨m, hm⟩ := List.mem_iff_getElem?.mp hm
            obtain ⟨a, e, _, ha⟩ := hRC m y hm
            exact ⟨a, e, sG _ _ (sF _ _ (sD _ _ ha))⟩
          · obtain ⟨m, hm⟩ := List.mem_iff_getElem?.mp hm
            obtain ⟨a, e, _, ha⟩ := hRF m y hm
            exact ⟨a, e, sG _ _ ha⟩
        have hSG := ((((hS.same sA).same sC).same sD).same sF).same sG
        refine ⟨_, rfl, p, rfl, ⟨_, .inl (.inl hp)⟩, fun D3 nD3 => ?_⟩
        refine lc_selL (K := K) (xs := ys ++ ys2) ((ys ++ ys2).map fun _ => none) nD3 (.inl (.inl hp)) (by rw [List.length_map]) (by rw [List.length_append, hl6, hl2]; decide) (fun x => rfl) ?_ ?_
        · intro k y o HI hy ho sI Qt qt
          rw [List.getElem?_map, hy] at ho
          cases ho
          obtain ⟨a, rfl, ha⟩ := hall k y hy
          have haI := sI _ _ ha
          have hSI := hSG.same sI
          refine ⟨_, rfl, a, _, _, .str (("mark" : String) : Str), rfl, rfl, .inl (.inl haI), at0 _ _, rfl, _, rfl, ?_⟩
          rw [decide_eq_true rfl]
          refine iteF ?_
          refine ⟨_, rfl, a, _, _, x, rfl, rfl, .inl (.inl haI), at1 _ _ _, hSI.repr ⟨_, rfl, hSI.repr ⟨rfl, _, rfl, ?_⟩⟩⟩
          rw [decide_eq_true rfl]
          exact iteF (qt _ (Same.refl _))
        · intro HI sI hDI
          rw [fm_noneN] at hDI
          refine ⟨Nat.zero_le _, fun p2 np2 => ?_⟩
          refine ne_lst (ns := []) (.inl (.inl (same_upd np2 _ _ hDI))) (.inl (.inl upd_same)) ⟨_, rfl, iteF ?_⟩
          exact ⟨_, _, rfl, (((((sA.trans sC).trans sD).trans sF).trans sG).trans sI).trans (same_upd np2)⟩
  · rintro σ H3 ⟨v1, v2, rfl, s3⟩
    refine ⟨_, _, rfl, rfl, ⟨by decide, by decide +kernel⟩, (by show 2 ≤ sizeLine; decide), fun u0 nu0 => ?_⟩
    obtain ⟨H4, e4, s4, hu0⟩ := fresh (.tup [V.int 0, V.int (10 ^ 18)]) nu0
    refine ⟨(by show 2 ≤ sizeLine; decide), fun u1 nu1 => ?_⟩
    have e4' : upd H3 u0 (.tup [V.int 0, V.int (10 ^ ((18 : Int)).toNat)]) = H4 := e4
    rw [e4'] at nu1 ⊢
    obtain ⟨H5, e5, s5, hu1⟩ := fresh (.tup [V.int 1, V.int 4000]) nu1
    rw [e5]
    refine ⟨(by show 2 ≤ sizeLine; decide), fun u2 nu2 => ?_⟩
    obtain ⟨H6, e6, s6, hu2⟩ := fresh (.tup [V.int 2, V.int 60]) nu2
    rw [e6]
    refine ⟨(by show 2 ≤ sizeLine; decide), fun u3 nu3 => ?_⟩
    obtain ⟨H7, e7, s7, hu3⟩ := fresh (.tup [V.int 3, V.int 300]) nu3
    rw [e7]
    refine ⟨(by show 4 ≤ sizeLine; decide), fun L3 nL3 => ?_⟩
    obtain ⟨H8, e8, s8, hL3⟩ := fresh (.lst [V.ref u0, V.ref u1, V.ref u2, V.ref u3]) nL3
    rw [e8]
    refine ⟨L3, rfl, ⟨_, .inl (.inl hL3)⟩, for_list (K := K) (a := L3) (fun i σ HA => ∃ v1 v2 v3 v4 : Option V, σ = [some (.str (bS (A ++ [z]))), v1, v2, v3, v4, none] ∧ Same H8 HA) ⟨v1, v2, none, none, rfl, Same.refl _⟩ (fun i σ HA _ ⟨_, _, _, _, _, s⟩ => .inl (.inl (s _ _ hL3))) ?_ ?_⟩
    · rintro i x σ HA hx ⟨v1, v2, v3, v4, rfl, sA⟩
      obtain ⟨u, k, m, rfl, hp, hu⟩ : ∃ (u : Addr) (k : Nat) (m : Int), x = .ref u ∧ (k, m) ∈ waysL ∧ HA u = some (.tup [V.int k, V.int m]) := by
        match i, hx with
        | 0, hx => cases hx; exact ⟨u0, 0, 10 ^ 18, rfl, by simp [waysL], sA _ _ (s8 _ _ (s7 _ _ (s6 _ _ (s5 _ _ hu0))))⟩
        | 1, hx => cases hx; exact ⟨u1, 1, 4000, rfl, by simp [waysL], sA _ _ (s8 _ _ (s7 _ _ (s6 _ _ hu1)))⟩
        | 2, hx => cases hx; exact ⟨u2, 2, 60, rfl, by simp [waysL], sA _ _ (s8 _ _ (s7 _ _ hu2))⟩
        | 3, hx => cases hx; exact ⟨u3, 3, 300, rfl, by simp [waysL], sA _ _ (s8 _ _ hu3)⟩
        | i + 4, hx => simp at hx
      refine ⟨u, _, rfl, .inl (.inl hu), rfl, _, _, rfl, _, _, rfl, rfl, ?_⟩
      refine ⟨_, rfl, _, rfl, _, _, rfl, rfl, (by show 1 ≤ sizeLine; decide), fun l2 nl2 => ?_⟩
      obtain ⟨HB, eB, sB, hl2⟩ := fresh (.lst [V.int 2]) nl2
      rw [eB]
      refine ⟨(by show 2 ≤ sizeLine; decide), fun t2 nt2 => ?_⟩
      obtain ⟨HC, eC, sC, ht2⟩ := fresh (.tup [V.int 3, V.int 1]) nt2
      rw [eC]
      refine ⟨(by show 7 ≤ sizeLine; decide), fun L4 nL4 => ?_⟩
      obtain ⟨HD, eD, sD, hL4⟩ := fresh (.lst [V.non, .str (("1" : String) : Str), .int (-1), .int (m + 1), .bl true, .ref l2, .ref t2]) nL4
      walk_at "b"
      rw [eD]
      have f2 := bad_nums (K := K) hp (sD _ _ (sC _ _ hl2)) (sD _ _ ht2)
      obtain ⟨hk4, _, _, _⟩ := ways_hi _ hp
      dsimp only at hk4
      refine ⟨L4, rfl, ⟨_, .inl (.inl hL4)⟩, for_list (K := K) (a := L4) (fun i σ HE => ∃ v1 v2 : Option V, σ = [some (.str (bS (A ++ [z]))), v1, v2, some (.int k), some (.int m), none] ∧ Same HD HE) ⟨v1, v2, rfl, Same.refl _⟩ (fun i σ HE _ ⟨_, _, _, s⟩ => .inl (.inl (s _ _ hL4))) ?_ ?_⟩
      · rintro i x σ HE hx ⟨v1, v2, rfl, sE⟩
        obtain ⟨hB, t, hS⟩ := f2 x (List.mem_of_getElem? hx)
        refine ⟨_, rfl, _, rfl, _, rfl, k, _, x, rfl, by omega, .inr ⟨⟨A, z, rfl, hg, hk4, hB.same sE⟩, fun HF a sF na ha => ?_⟩⟩
        have hSF := (hS.same sE).same sF
        refine ⟨_, rfl, a, _, _, .str (("number" : String) : Str), rfl, rfl, .inl (.inl ha), at0 _ _, rfl, _, rfl, ?_⟩
        rw [decide_eq_true rfl]
        refine iteF ?_
        refine ⟨_, rfl, a, _, _, x, rfl, rfl, .inl (.inl ha), at1 _ _ _, hSF.repr ⟨_, rfl, hSF.repr ⟨rfl, _, rfl, ?_⟩⟩⟩
        rw [decide_eq_true rfl]
        refine iteF ?_
        exact ⟨_, _, rfl, sE.trans sF⟩
      · rintro σ HE ⟨v1, v2, rfl, sE⟩
        exact ⟨_, _, _, _, rfl, (((sA.trans sB).trans sC).trans sD).trans sE⟩
    · rintro σ HA ⟨v1, v2, v3, v4, rfl, sA⟩
      exact q _ (((((((((s1.trans s2).trans s3).trans s4).trans s5).trans s6).trans s7).trans s8)).trans sA)
end
end My

namespace My
open PySem PySem.Spec PyProof.Rows L2 Pre
/-! ### the law of growth: great numbers -/
theorem cm_good {A : List Bool} {z : Bool} (h : GoodM A z) : GoodM (cm A) (!z) := ⟨by rw [cm_len]; exact h.1, by rw [cm_len]; exact h.2.1, keep_cm h.2.2⟩
local macro_rules | `(tactic| walk_at "go") => `(tactic| repeat (first | (with_reducible first | refine iteT ?_ | refine iteF ?_ | refine iteNtt ?_ | refine iteNff ?_ | refine iteET (by omega) ?_ | refine iteEF (by omega) ?_ | refine iteENT (by omega) ?_ | refine iteENF (by omega) ?_ | refine iteDT (by omega) ?_ | refine iteDF (by omega) ?_ | refine iteNT (by omega) ?_ | refine iteNF (by omega) ?_) | refine ⟨_, rfl, ?_⟩ | refine ⟨_, _, rfl, rfl, ?_⟩ | refine ⟨_, _, rfl, ?_⟩ | refine ⟨rfl, ?_⟩ | refine .inl ⟨_, rfl, ?_⟩ | refine .inr ⟨_, rfl, ?_⟩))
local macro_rules | `(tactic| walk_at "b") => `(tactic| try dsimp (config := { proj := false, iota := false, eta := false, zeta := false }) only)
section
variable {P : Program} {w : World} {K : PySem.W.Frag} {mg : Str → Option Value} {base : Heap} [pf : Sup.PF P fileS]
def sp_law_great_right : Sp := fun vs H Q _ => ∃ (g : Addr) (A : List Bool) (z : Bool), vs = [.ref g, .str (bS (A ++ [z]))] ∧ GoodM A z ∧ PumpAt H g ∧ ∀ H', But g H H' → PumpAt H' g → Q (.bl true) H'
theorem G_law_great_right (T : Top K mg) : FnOk P w K mg base CX0 7 T.f_law_great_right T.fd_law_great_right ["_law_pump_here", "_law_mark_here"] sp_law_great_right := by
  refine T.F_law_great_right.ok sc_law_great_right (fun vs H Q E h => by obtain ⟨g, A, z, rfl, _⟩ := h; rfl) (fun cdv A outer s H vs Q E hr h => ?_)
  obtain ⟨g, A, z, rfl, hg, hP, q⟩ := h
  refine ⟨_, PSs.nox (pss_cons (ps_set (i := 2) sc_law_great_right.nd rfl (by first | exact Or.inl rfl | exact Or.inr rfl) (pe_call (G_law_step (P := P) T) (hr.mono (by decide)) (by rfl) T.g_law_step T.F_law_step.kp T.b_law_step .nil pass0 (pa_cons (pv 1) pa_nil)))
  (pss_cons (ps_set (i := 3) sc_law_great_right.nd rfl (by first | exact Or.inl rfl | exact Or.inr rfl) (pe_op op_add (pe_op op_sub (pe_callB call_len_str (by rfl) T.n_len (by decide +kernel) (pa_cons (pv 1) pa_nil)) pe_int) (pe_call (G_law_cup (P := P) T) (hr.mono (by decide)) (by rfl) T.g_law_cup T.F_law_cup.kp T.b_law_cup .nil pass0 (pa_cons (pv 0) (pa_cons (pe_op op_powW pe_int pe_int) pa_nil)))))
  (pss_cons (ps_set (i := 4) sc_law_great_right.nd rfl (by first | exact Or.inl rfl | exact Or.inr rfl) (pe_call (G_most_growth (P := P) T) (hr.mono (by decide)) (by rfl) T.g_most_growth T.F_most_growth.kp T.b_most_growth .nil passL (pa_cons (pv 1) (pa_cons (pv 3) pa_nil))))
  (pss_cons (ps_if (PW.pt (pw_or (pt_cmpR op_ne (pe_call (G_most_growth (P := P) T) (hr.mono (by decide)) (by rfl) T.g_most_growth T.F_most_growth.kp T.b_most_growth .nil passL (pa_cons (pv 1) (pa_cons (pe_op op_add (pv 3) (pv 2)) pa_nil))) (pe_op op_add (pv 4) pe_int) (nomark _)) (pw_or1 (pt_cmpR op_ne (pe_callKO (G_most_growth (P := P) T) (hr.mono (by decide)) (by rfl) T.g_most_growth T.F_most_growth.kp (FunD.kbindsN T.F_most_growth ["many", "mark"] sw2 sw2_rel (fun _ _ _ _ _ _ ws hl => match ws, hl with | [_, _], _ => rfl)) passL (pk_cons (pe_op op_add (pv 3) (pe_op op_mul pe_int (pv 2))) (pk_cons (pv 1) pk_nil))) (pe_op op_add (pv 4) pe_int) (nomark _)))))
    (pss_one (ps_ret pe_bl))
    pss_nil)
  (pss_cons (ps_if (PW.pt (pw_or (pt_cmpR op_ne (pe_call (G_most_growth (P := P) T) (hr.mono (by decide)) (by rfl) T.g_most_growth T.F_most_growth.kp T.b_most_growth .nil passL (pa_cons (pv 1) (pa_cons (pe_op op_sub (pe_callB call_len_str (by rfl) T.n_len (by decide +kernel) (pa_cons (pv 1) pa_nil)) pe_int) pa_nil))) pe_int (nomark _)) (pw_or1 (pt_cmpR op_ne (pe_call (G_most_growth (P := P) T) (hr.mono (by decide)) (by rfl) T.g_most_growth T.F_most_growth.kp T.b_most_growth .nil passL (pa_cons (pv 1) (pa_cons (pe_op op_sub (pe_callB call_len_str (by rfl) T.n_len (by decide +kernel) (pa_cons (pv 1) pa_nil)) pe_int) pa_nil))) pe_int (nomark _)))))
    (pss_one (ps_ret pe_bl))
    pss_nil)
  (pss_cons (ps_set (i := 5) sc_law_great_right.nd rfl (by first | exact Or.inl rfl | exact Or.inr rfl) (pe_call (G_law_cup (P := P) T) (hr.mono (by decide)) (by rfl) T.g_law_cup T.F_law_cup.kp T.b_law_cup .nil pass0 (pa_cons (pv 0) (pa_cons pe_int pa_nil))))
  (pss_cons (ps_if (pt_cmpR op_ne (pe_call (G_law_grown (P := P) T) (hr.mono (by decide)) (by rfl) T.g_law_grown T.F_law_grown.kp T.b_law_grown .nil pass0 (pa_cons (pv 1) (pa_cons (pe_callKO (G_most_row (P := P) T) (hr.mono (by decide)) (by rfl) T.g_most_row T.F_most_row.kp (FunD.kbindsN T.F_most_row ["many", "mark"] sw2 sw2_rel (fun _ _ _ _ _ _ ws hl => match ws, hl with | [_, _], _ => rfl)) passL (pk_cons (pv 5) (pk_cons (pv 1) pk_nil))) pa_nil))) (pe_call (G_most_growth (P := P) T) (hr.mono (by decide)) (by rfl) T.g_most_growth T.F_most_growth.kp T.b_most_growth .nil passL (pa_cons (pv 1) (pa_cons (pv 5) pa_nil))) (nomark _))
    (pss_one (ps_ret pe_bl))
    pss_nil)
  (pss_cons (ps_if (pt_cmpR op_ne (pe_callKO (G_sum_growth (P := P) T) (hr.mono (by decide)) (by rfl) T.g_sum_growth T.F_sum_growth.kp (FunD.kbindsN T.F_sum_growth ["many", "mark"] sw2 sw2_rel (fun _ _ _ _ _ _ ws hl => match ws, hl with | [_, _], _ => rfl)) passL (pk_cons (pv 5) (pk_cons (pv 1) pk_nil))) (pe_call (G_sum_growth (P := P) T) (hr.mono (by decide)) (by rfl) T.g_sum_growth T.F_sum_growth.kp T.b_sum_growth .nil passL (pa_cons (pe_call (G_law_other_bits (P := P) T) (hr.mono (by decide)) (by rfl) T.g_law_other_bits T.F_law_other_bits.kp T.b_law_other_bits .nil pass0 (pa_cons (pv 1) pa_nil)) (pa_cons (pv 5) pa_nil))) (nomark _))
    (pss_one (ps_ret pe_bl))
    pss_nil)
  (pss_cons (ps_set (i := 6) sc_law_great_right.nd rfl (by first | exact Or.inl rfl | exact Or.inr rfl) (pe_op op_mod (pv 5) pe_int))
  (pss_cons (ps_set (i := 4) sc_law_great_right.nd rfl (by first | exact Or.inl rfl | exact Or.inr rfl) (pe_call (G_growths (P := P) T) (hr.mono (by decide)) (by rfl) T.g_growths T.F_growths.kp T.b_growths .nil passL (pa_cons (pv 1) (pa_cons (pv 6) pa_nil))))
  (pss_cons (ps_if (PW.pt (pw_or (pt_cmpR op_ne (pe_callB (k_sum K rfl rfl) (by rfl) T.n_sum (by decide +kernel) (pa_cons (pv 4) pa_nil)) (pe_op op_shl pe_int (pv 6)) (nomark _)) (pw_or (pt_cmpR op_eq (pe_ix (k_ixL K rfl) (pv 4) (pe_un un_neg pe_int) (fun _ _ => rfl)) pe_int (nomark _)) (pw_or1 (pt_cmpR op_ne (pe_callB (k_len K rfl) (by rfl) T.n_len (by decide +kernel) (pa_cons (pv 4) pa_nil)) (pe_op op_add (pe_call (G_most_growth (P := P) T) (hr.mono (by decide)) (by rfl) T.g_most_growth T.F_most_growth.kp T.b_most_growth .nil passL (pa_cons (pv 1) (pa_cons (pv 6) pa_nil))) pe_int) (nomark _))))))
    (pss_one (ps_ret pe_bl))
    pss_nil)
  (pss_one (ps_ret (pe_cmpR op_eq (pe_call (G_sum_growth (P := P) T) (hr.mono (by decide)) (by rfl) T.g_sum_growth T.F_sum_growth.kp T.b_sum_growth .nil passL (pa_cons (pv 1) (pa_cons (pv 6) pa_nil))) (pe_callB (k_sum K rfl rfl) (by rfl) T.n_sum (by decide +kernel) (pa_cons (pe_lc (own := [("_law_grown_here", 7), ("_law_number", 8)]) (g := gTup K 2 (gCons (gName 7) (gCons (gName 8) (gNil)))) (tt := tYes) (by rfl) sc_law_great_right.nd (k_piE K rfl (by rfl) T.n_enumerate (pa_cons (pv 4) pa_nil)) (blkOk_by (own := [("_law_grown_here", 7), ("_law_number", 8)]) (N := N_law_great_right) (sc := defScope s_law_great_right) (by decide +kernel)) (fun _ _ _ _ _ => (k_pgT K rfl (by rfl) (pgs_cons (pg_name (i := 7) sc_law_great_right.nd rfl (by first | exact Or.inl rfl | exact Or.inr rfl)) (pgs_cons (pg_name (i := 8) sc_law_great_right.nd rfl (by first | exact Or.inl rfl | exact Or.inr rfl)) pgs_nil)))) (fun _ _ _ _ _ => pts_nil) (fun _ _ _ _ _ => (pe_op op_mul (pv 7) (pv 8)))) pa_nil)) (nomark _))))))))))))))), ?_⟩
  obtain ⟨h1, h2, hk⟩ := id hg
  have hl : (bS (A ++ [z])).length = A.length + 1 := by rw [bS_len, List.length_append, List.length_singleton]
  have hb := beh_lt hk
  refine ⟨_, rfl, A, z, rfl, by omega, fun H1 s1 => ?_⟩
  rw [show (A.length : Int) - (beh A z : Int) = ((A.length - beh A z : Nat) : Int) by omega]
  refine ⟨_, rfl, _, rfl, by rw [hl, sizeLine_eq]; omega, _, _, rfl, rfl, ?_⟩
  refine ⟨_, rfl, _, _, rfl, rfl, ⟨by decide, by decide +kernel⟩, g, _, rfl, hP.same s1, by decide, by decide, fun H2 d b2 hP2 hd => ?_⟩
  refine ⟨_, _, rfl, rfl, ?_⟩
  dsimp only
  rw [hl, show (((A.length + 1 : Nat) : Int) - 1 + (d : Int)) = ((A.length + d : Nat) : Int) by omega]
  have hd2 : d < 10 ^ 17 := by
    have : (d : Int) < 10 ^ 17 := hd
    omega
  refine ⟨_, rfl, _, rfl, _, _, rfl, .inl ⟨A, z, rfl, h1, h2, hk, .inl ⟨A.length + d, rfl, by omega, fun H3 s3 => ?_⟩⟩⟩
  have mm := mostG_more hk (n := A.length + d) (by omega)
  have m1 := mm 1
  have m9 := mm 9
  rw [Nat.one_mul] at m1
  have hD15 : A.length - beh A z ≤ 15 := by omega
  refine ⟨_, rfl, _, rfl, _, rfl, _, _, rfl, rfl, _, _, rfl, .inl ⟨A, z, rfl, h1, h2, hk, .inl ⟨A.length + d + (A.length - beh A z), rfl, by omega, fun H4 s4 => ?_⟩⟩⟩
  rw [m1]
  refine ⟨_, rfl, _, _, rfl, rfl, rfl, _, rfl, ?_⟩
  refine iteENF (by omega) ?_
  refine ⟨_, rfl, _, rfl, _, _, rfl, rfl, .inl ⟨by decide, by decide⟩, _, _, rfl, rfl, _, rfl, rfl, _, _, rfl, .inl ⟨A, z, rfl, h1, h2, hk, .inl ⟨A.length + d + 9 * (A.length - beh A z), rfl, by omega, fun H5 s5 => ?_⟩⟩⟩
  rw [m9]
  refine ⟨_, rfl, _, _, rfl, rfl, rfl, _, rfl, ?_⟩
  refine iteENF (by omega) ?_
  refine ⟨_, rfl, _, rfl, _, rfl, by rw [hl, sizeLine_eq]; omega, _, _, rfl, rfl, _, _, rfl, .inl ⟨A, z, rfl, h1, h2, hk, .inl ⟨A.length, by rw [hl]; show V.int _ = V.int _; congr 1; omega, by omega, fun H6 s6 => ?_⟩⟩⟩
  rw [mostG_one hk]
  refine ⟨rfl, _, rfl, iteF ?_⟩
  refine ⟨_, rfl, _, rfl, _, rfl, by rw [hl, sizeLine_eq]; omega, _, _, rfl, rfl, _, _, rfl, .inl ⟨A, z, rfl, h1, h2, hk, .inl ⟨A.length - 1, by rw [hl]; show V.int _ = V.int _; congr 1; omega, by omega, fun H7 s7 => ?_⟩⟩⟩
  rw [mostG_nil (A := A) (z := z) (n := A.length - 1) (by omega)]
  refine ⟨rfl, _, rfl, iteF ?_⟩
  have hP7 : PumpAt H7 g := ((((hP2.same s3).same s4).same s5).same s6).same s7
  refine ⟨_, rfl, g, _, rfl, hP7, by decide, by decide, fun H8 n b8 hP8 hn => ?_⟩
  have hn3 : n ≤ 300 := by omega
  refine ⟨_, rfl, _, rfl, _, rfl, rfl, _, _, rfl, .inl ⟨A, z, rfl, h1, h2, hk, .inl ⟨n, rfl, by omega, fun H9 j s9 hj => ?_⟩⟩⟩
  have hrl : ((mostR A z j).take n).length = n := by rw [List.length_take]; omega
  have hrg : grA A z ((mostR A z j).take n) = mostG A z n := mostR_take hk hj
  generalize (mostR A z j).take n = R at *
  refine ⟨A, z, R, rfl, by omega, by omega, ?_⟩
  refine ⟨_, rfl, _, rfl, _, _, rfl, .inl ⟨A, z, rfl, h1, h2, hk, .inl ⟨n, rfl, by omega, fun H10 s10 => ?_⟩⟩⟩
  refine ⟨rfl, _, rfl, iteENF (by rw [hrg]) ?_⟩
  refine ⟨_, rfl, _, rfl, rfl, _, _, rfl, .inl ⟨A, z, rfl, h1, h2, hk, .inl ⟨n, rfl, by omega, fun H11 s11 => ?_⟩⟩⟩
  refine ⟨_, rfl, A ++ [z], rfl, by rw [List.length_append, List.length_singleton]; omega, fun H12 s12 => ?_⟩
  obtain ⟨c1, c2, ck⟩ := cm_good hg
  refine ⟨_, rfl, _, _, rfl, .inl ⟨cm A, !z, by rw [cm_app]; rfl, c1, c2, ck, .inl ⟨n, rfl, by omega, fun H13 s13 => ?_⟩⟩⟩
  rw [sG_cm]
  refine ⟨rfl, _, rfl, iteENF rfl ?_⟩
  refine ⟨_, rfl, _, _, rfl, rfl, (show (0 : Int) < 61 by decide), ?_⟩
  dsimp only
  rw [show (n : Int) % 61 = ((n % 61 : Nat) : Int) by omega]
  have hm60 : n % 61 ≤ 60 := by omega
  generalize n % 61 = m at *
  refine ⟨_, rfl, _, rfl, _, _, rfl, .inl ⟨A, z, rfl, h1, h2, hk, .inl ⟨m, rfl, by omega, fun H14 p L s14 np hp hL => ?_⟩⟩⟩
  obtain ⟨hsum, hplaces⟩ := counts_sums hk hL
  have hlen := counts_len hk hL
  have hmg := mostG_le (z := z) h1 m
  have hlen2 : L.length ≤ 61 := by omega
  refine ⟨_, rfl, p, _, rfl, .inl (.inl hp), _, rfl, _, _, rfl, rfl, ⟨by omega, by omega, by decide⟩, rfl, _, rfl, ?_⟩
  refine iteENF (by rw [nI_sum, hsum, Int.one_mul, Int.toNat_natCast, Int.natCast_pow]; rfl) ?_
  obtain ⟨M, x, rfl⟩ : ∃ M x, L = M ++ [x] := ⟨L.dropLast, L.getLast (by intro e; rw [e] at hlen; simp at hlen), (List.dropLast_concat_getLast _).symm⟩
  have hx0 : x ≠ 0 := by
    have := hL.2 (by simp)
    simpa using this
  refine ⟨_, rfl, _, rfl, p, _, _, .int x, rfl, rfl, .inl (.inl hp), by
    rw [show (nI (M ++ [x])).map V.int = (nI M).map V.int ++ [V.int x] by unfold nI; rw [List.map_append, List.map_append]; rfl]
    exact atI_last _ _, rfl, _, rfl, ?_⟩
  refine iteEF (by omega) ?_
  refine ⟨_, rfl, p, _, rfl, .inl (.inl (.inl hp)), ?_⟩
  refine ⟨_, rfl, _, rfl, _, _, rfl, .inl ⟨A, z, rfl, h1, h2, hk, .inl ⟨m, rfl, by omega, fun H15 s15 => ?_⟩⟩⟩
  refine ⟨_, _, rfl, rfl, rfl, _, rfl, ?_⟩
  refine iteENF (by rw [nI_len, hlen]; omega) ?_
  refine ⟨_, rfl, _, rfl, _, _, rfl, .inl ⟨A, z, rfl, h1, h2, hk, .inl ⟨m, rfl, by omega, fun H16 s16 => ?_⟩⟩⟩
  have hp7 := s16 _ _ (s15 _ _ hp)
  generalize M ++ [x] = L at *
  refine ⟨_, rfl, p, _, rfl, .inl (.inl hp7), fun D nD => ?_⟩
  refine lc_dW (walk_enum (K := K) (a := p) (xs := (nI L).map V.int)) (Has.nil (H := H16)) ((List.range L.length).map fun i => some (PyData.int ((i * L.getD i 0 : Nat) : Int))) nD (by rw [List.length_map, List.length_range, nI_len]) (by rw [nI_len]; exact small4 (by omega)) (fun H' s => .inl (.inl (s _ _ hp7))) ?_ ?_
  · rintro i o H0 x H' hi ho s0 hS ⟨T1, y1, z1, rfl, nT, rfl, e1, ez1⟩ Qt qt
    cases e1
    obtain ⟨m, hm, rfl⟩ := nI_at ez1
    have il : i < L.length := (List.getElem?_eq_some_iff.mp hm).1
    rw [List.getElem?_map, List.getElem?_range il] at ho
    cases ho
    have egd : L.getD i 0 = m := by rw [List.getD_eq_getElem?_getD, hm]; rfl
    dsimp only at qt
    rw [egd] at qt
    refine ⟨T1, _, rfl, .inl (.inl upd_same), rfl, _, _, rfl, _, _, rfl, rfl, rfl, ?_⟩
    unfold tYes
    dsimp only
    rw [if_pos (show true = true from rfl)]
    refine ⟨_, rfl, _, rfl, _, _, rfl, rfl, .inl ⟨by omega, by omega⟩, ?_⟩
    exact qt (some (.int ((i : Int) * (m : Int)))) _ (same_upd nT) (by rw [← Int.natCast_mul]; exact .int _)
  · intro H17 s17 hD hd
    rw [rs_nil, sel_map] at hd
    obtain ⟨_, xs, e, hxs, hx⟩ := hd.listE
    cases e
    have hx2 : DtA H17 xs ((nI (places L)).map PyData.int) := by
      have e2 : ((List.range L.length).map fun i => PyData.int ((i * L.getD i 0 : Nat) : Int)) = (nI (places L)).map PyData.int := by
        unfold nI places
        rw [List.map_map, List.map_map]
        rfl
      rw [← e2]
      exact hx
    rw [DtA.intsE hx2] at hxs
    refine ⟨D, nI (places L), rfl, .inl (.inl hxs), rfl, ?_⟩
    rw [nI_sum, hplaces, decide_eq_true rfl]
    have sA : Same H8 H17 := ((((((((s9.trans s10).trans s11).trans s12).trans s13).trans s14).trans s15).trans s16).trans s17)
    have sB : Same H2 H7 := (((s3.trans s4).trans s5).trans s6).trans s7
    exact q _ (((((But.of s1).trans b2).same sB).trans b8).same sA) (hP8.same sA)
end
end My

namespace My
open PySem PySem.Spec PyProof.Rows L2 Pre
/-! ### the law of growth: two marks -/
theorem GDiff.symm {A B : List Bool} {z y : Bool} {n : Nat} : GDiff A z B y n ↔ GDiff B y A z n := ⟨fun ⟨k, h⟩ => ⟨k, fun e => h e.symm⟩, fun ⟨k, h⟩ => ⟨k, fun e => h e.symm⟩⟩
theorem IsPart.symm {A B : List Bool} {z y : Bool} {v : V} (h : IsPart B y A z v) : IsPart A z B y v := by
  rcases h with ⟨n, e, hn, hd, hm⟩ | ⟨e, hm⟩
  · exact .inl ⟨n, e, by omega, GDiff.symm.mp hd, fun m l c => hm m l (GDiff.symm.mp c)⟩
  · exact .inr ⟨e, fun m l c => hm m (by omega) (GDiff.symm.mp c)⟩
theorem IsPart.uniq {A B : List Bool} {z y : Bool} {v u : V} (h : IsPart A z B y v) (k : IsPart A z B y u) : v = u := by
  rcases h with ⟨n, rfl, hn, hd, hm⟩ | ⟨rfl, hm⟩
  · rcases k with ⟨n', rfl, hn', hd', hm'⟩ | ⟨rfl, hm'⟩
    · congr 2
      have h1 : ¬ n < n' := fun l => hm' n l hd
      have h2 : ¬ n' < n := fun l => hm n' l hd'
      omega
    · exact absurd hd (hm' n hn)
  · rcases k with ⟨n', rfl, hn', hd', hm'⟩ | ⟨rfl, hm'⟩
    · exact absurd hd' (hm n' hn')
    · rfl
theorem IsPart.none {A B : List Bool} {z y : Bool} {v : V} (h : IsPart A z B y v) : v = .non ↔ ∀ m, m < A.length + B.length → ¬ GDiff A z B y m := by
  rcases h with ⟨n, rfl, hn, hd, hm⟩ | ⟨rfl, hm⟩
  · exact ⟨fun e => (nomatch e), fun h => absurd hd (h n hn)⟩
  · exact ⟨fun _ => hm, fun _ => rfl⟩
theorem IsPart.data {K : PySem.W.Frag} {H : Hp} {A B : List Bool} {z y : Bool} {v : V} (h : IsPart A z B y v) : ∃ d, Dp K H v d ∧ SeqAt.shaped d = true ∧ PyData.eqv d d = true := by
  rcases h with ⟨n, rfl, _⟩ | ⟨rfl, _⟩
  · exact ⟨.int n, .int n, rfl, by rw [PyData.eqv]; simp⟩
  · exact ⟨.none, .non, rfl, rfl⟩
open Classical in
/-- the lengths of unlike growths, below a number -/
noncomputable def lenD (A : List Bool) (z : Bool) (B : List Bool) (y : Bool) (n : Nat) : List (Option V) := (List.range n).map fun m => if GDiff A z B y m then some (V.int (m : Int)) else none
open Classical in
theorem lenD_head (A : List Bool) (z : Bool) (B : List Bool) (y : Bool) : ∃ x r, (lenD A z B y (A.length + B.length)).filterMap id ++ [V.non] = x :: r ∧ IsPart A z B y x := by
  have e : (lenD A z B y (A.length + B.length)).filterMap id = ((List.range (A.length + B.length)).filter fun m => decide (GDiff A z B y m)).map fun m => V.int ((m : Nat) : Int) := by
    unfold lenD
    generalize List.range (A.length + B.length) = l
    induction l with
    | nil => rfl
    | cons m r ih =>
      rw [List.map_cons, List.filterMap_cons, List.filter_cons]
      by_cases h : GDiff A z B y m
      · rw [if_pos h, if_pos (decide_eq_true h), List.map_cons, ← ih]
        rfl
      · rw [if_neg h, if_neg (by rw [decide_eq_false h]; decide), ← ih]
        rfl
  rw [e]
  rcases first_range (p := fun m => decide (GDiff A z B y m)) (n := A.length + B.length) with ⟨m, hh, hm, hp, hj⟩ | ⟨hn, hj⟩
  · obtain ⟨r, hr⟩ : ∃ r, (List.range (A.length + B.length)).filter (fun m => decide (GDiff A z B y m)) = m :: r := by
      cases hl : (List.range (A.length + B.length)).filter (fun m => decide (GDiff A z B y m)) with
      | nil => rw [hl] at hh; cases hh
      | cons a r => rw [hl] at hh; cases hh; exact ⟨r, rfl⟩
    rw [hr]
    exact ⟨_, _, rfl, .inl ⟨m, rfl, hm, of_decide_eq_true hp, fun j l => of_decide_eq_false (hj j l)⟩⟩
  · rw [hn]
    exact ⟨_, _, rfl, .inr ⟨rfl, fun j l => of_decide_eq_false (hj j l)⟩⟩
local macro_rules | `(tactic| walk_at "go") => `(tactic| repeat (first | (with_reducible first | refine iteT ?_ | refine iteF ?_ | refine iteNtt ?_ | refine iteNff ?_ | refine iteET (by omega) ?_ | refine iteEF (by omega) ?_ | refine iteENT (by omega) ?_ | refine iteENF (by omega) ?_ | refine iteDT (by omega) ?_ | refine iteDF (by omega) ?_ | refine iteNT (by omega) ?_ | refine iteNF (by omega) ?_) | refine ⟨_, rfl, ?_⟩ | refine ⟨_, _, rfl, rfl, ?_⟩ | refine ⟨_, _, rfl, ?_⟩ | refine ⟨rfl, ?_⟩ | refine .inl ⟨_, rfl, ?_⟩ | refine .inr ⟨_, rfl, ?_⟩))
local macro_rules | `(tactic| walk_at "b") => `(tactic| try dsimp (config := { proj := false, iota := false, eta := false, zeta := false }) only)
section
variable {P : Program} {w : World} {K : PySem.W.Frag} {mg : Str → Option Value} {base : Heap} [pf : Sup.PF P fileS]
def sp_law_pair_right : Sp := fun vs H Q _ => ∃ (A : List Bool) (z : Bool) (B : List Bool) (y : Bool), vs = [.str (bS (A ++ [z])), .str (bS (B ++ [y]))] ∧ GoodM A z ∧ GoodM B y ∧ A.length ≤ 4 ∧ B.length ≤ 4 ∧ ∀ H', Same H H' → Q (.bl true) H'
theorem G_law_pair_right (T : Top K mg) : FnG P w K mg base CX0 8 T.f_law_pair_right T.fd_law_pair_right ["_law_one", "_law_other"] sp_law_pair_right := by
  refine FnG.body T.F_law_pair_right sc_law_pair_right (fun vs H Q E h => by obtain ⟨A, z, B, y, rfl, _⟩ := h; rfl) (fun cdv A outer s H vs Q E gd hr h => ?_)
  obtain ⟨A, z, B, y, rfl, hg, hg2, hA, hB, q⟩ := h
  refine ⟨_, PSs.nox (pss_cons (ps_setLc (i := 2) (own := [("_law_many", 5)]) (g := gName 5) (by rfl) sc_law_pair_right.nd rfl rfl (sw_true rfl rfl rfl (by decide +kernel)) (pi_range1 (by rfl) T.n_range (pa_cons (pe_op op_sub (pe_op op_add (pe_callB call_len_str (by rfl) T.n_len (by decide +kernel) (pa_cons (pv 0) pa_nil)) (pe_callB call_len_str (by rfl) T.n_len (by decide +kernel) (pa_cons (pv 1) pa_nil))) pe_int) pa_nil)) (blkOk_by (own := [("_law_many", 5)]) (N := N_law_pair_right) (sc := defScope s_law_pair_right) (by decide +kernel)) (fun _ _ _ _ _ => (pg_name (i := 5) sc_law_pair_right.nd rfl (by first | exact Or.inl rfl | exact Or.inr rfl))) (fun _ _ _ _ _ => (pts_one (pt_cmpR (k_neD K rfl hr.units) (pe_call (G_law_counts (P := P) T) (hr.mono (by decide)) (by rfl) T.g_law_counts T.F_law_counts.kp T.b_law_counts .nil pass0 (pa_cons (pv 0) (pa_cons (pv 5) pa_nil))) (pe_call (G_law_counts (P := P) T) (hr.mono (by decide)) (by rfl) T.g_law_counts T.F_law_counts.kp T.b_law_counts .nil pass0 (pa_cons (pv 1) (pa_cons (pv 5) pa_nil))) (nomark _)))) (fun _ _ _ _ _ => (pv 5)))
  (pss_cons (ps_set (i := 3) sc_law_pair_right.nd rfl (by first | exact Or.inl rfl | exact Or.inr rfl) (pe_ix (k_ixL K rfl) (pe_op op_cat (pv 2) (pe_lst (pa_cons pe_non pa_nil))) pe_int (fun _ _ => rfl)))
  (pss_cons (ps_if (PW.pt (pw_or (pt_cmpR (k_neD K rfl hr.units) (pe_call (G_parting_growth (P := P) T) (hr.mono (by decide)) (by rfl) T.g_parting_growth T.F_parting_growth.kp T.b_parting_growth .nil passL (pa_cons (pv 0) (pa_cons (pv 1) pa_nil))) (pv 3) (nomark _)) (pw_or1 (pt_cmpR (k_neD K rfl hr.units) (pe_callKO (G_parting_growth (P := P) T) (hr.mono (by decide)) (by rfl) T.g_parting_growth T.F_parting_growth.kp (FunD.kbindsN T.F_parting_growth ["other", "one"] sw2 sw2_rel (fun _ _ _ _ _ _ ws hl => match ws, hl with | [_, _], _ => rfl)) passL (pk_cons (pv 0) (pk_cons (pv 1) pk_nil))) (pv 3) (nomark _)))))
    (pss_one (ps_ret pe_bl))
    pss_nil)
  (pss_cons (ps_set (i := 4) sc_law_pair_right.nd rfl (by first | exact Or.inl rfl | exact Or.inr rfl) (pe_lst (pa_cons (pe_call (G_same_growths (P := P) T) (hr.mono (by decide)) (by rfl) T.g_same_growths T.F_same_growths.kp T.b_same_growths .nil passL (pa_cons (pv 0) (pa_cons (pv 1) pa_nil))) (pa_cons (pe_callKO (G_same_growths (P := P) T) (hr.mono (by decide)) (by rfl) T.g_same_growths T.F_same_growths.kp (FunD.kbindsN T.F_same_growths ["other", "one"] sw2 sw2_rel (fun _ _ _ _ _ _ ws hl => match ws, hl with | [_, _], _ => rfl)) passL (pk_cons (pv 0) (pk_cons (pv 1) pk_nil))) pa_nil))))
  (pss_one (ps_ret (pe_cmpR op_eq (pe_callB (k_reprX K rfl gd (hu65 hr)) (by rfl) T.n_repr (by decide +kernel) (pa_cons (pv 4) pa_nil)) (pe_callB (k_reprX K rfl gd (hu65 hr)) (by rfl) T.n_repr (by decide +kernel) (pa_cons (pe_lst (pa_cons (pe_cmpR op_isN (pv 3) pe_non (nomark _)) (pa_cons (pe_cmpR op_isN (pv 3) pe_non (nomark _)) pa_nil))) pa_nil)) (nomark _)))))))), ?_⟩
  obtain ⟨h1, h2, hk⟩ := id hg
  obtain ⟨j1, j2, jk⟩ := id hg2
  have hl : (bS (A ++ [z])).length = A.length + 1 := by rw [bS_len, List.length_append, List.length_singleton]
  have hl2 : (bS (B ++ [y])).length = B.length + 1 := by rw [bS_len, List.length_append, List.length_singleton]
  refine ⟨_, rfl, _, rfl, by rw [hl, sizeLine_eq]; omega, _, rfl, _, rfl, by rw [hl2, sizeLine_eq]; omega, _, _, rfl, rfl, _, _, rfl, rfl, ?_⟩
  dsimp only
  rw [hl, hl2, show (((A.length + 1 : Nat) : Int) + ((B.length + 1 : Nat) : Int) - 2) = ((A.length + B.length : Nat) : Int) by omega]
  refine ⟨_, rfl, by omega, by omega, fun D nD => ?_⟩
  rw [Int.toNat_natCast]
  refine lc_selR (lo := 0) (n := A.length + B.length) (lenD A z B y (A.length + B.length)) nD (by unfold lenD; rw [List.length_map, List.length_range]) (small4 (by omega)) (fun x => rfl) ?_ ?_
  · intro i o H' hi ho s Qt qt
    unfold lenD at ho
    rw [List.getElem?_map, List.getElem?_range hi] at ho
    cases ho
    rw [Int.zero_add]
    refine ⟨_, rfl, _, rfl, A, z, i, rfl, by omega, by omega, fun H1 p L s1 np hp hL => ?_⟩
    refine ⟨_, rfl, _, rfl, B, y, i, rfl, by omega, by omega, fun H2 p2 M s2 np2 hp2 hM => ?_⟩
    refine neD_lst (ns := nI L) (ms := nI M) (.inl (.inl (s2 _ _ hp))) (.inl (.inl hp2)) ⟨_, rfl, ?_⟩
    dsimp only at qt
    by_cases h : GDiff A z B y i
    · rw [if_pos h] at qt
      refine iteNT ((diff_iff hL hM).mp h) ?_
      exact ⟨_, rfl, qt _ (s1.trans s2)⟩
    · rw [if_neg h] at qt
      refine iteNF (Classical.byContradiction fun c => h ((diff_iff hL hM).mpr c)) ?_
      exact qt _ (s1.trans s2)
  · intro H1 s1 hD
    obtain ⟨x, r, exr, hx⟩ := lenD_head A z B y
    have hll : ((lenD A z B y (A.length + B.length)).filterMap id).length ≤ 100 := by
      have := List.length_filterMap_le id (lenD A z B y (A.length + B.length))
      have e : (lenD A z B y (A.length + B.length)).length = A.length + B.length := by unfold lenD; rw [List.length_map, List.length_range]
      omega
    refine ⟨_, rfl, (by show 1 ≤ sizeLine; decide), fun p np => ?_⟩
    obtain ⟨H2, e2, s2, hp⟩ := fresh (.lst [V.non]) np
    rw [e2]
    refine ⟨D, p, _, _, rfl, rfl, s2 _ _ hD, hp, by rw [sizeLine_eq]; show _ + 1 ≤ _; omega, fun p2 np2 => ?_⟩
    obtain ⟨H3, e3, s3, hp2⟩ := fresh (.lst ((lenD A z B y (A.length + B.length)).filterMap id ++ [V.non])) np2
    rw [e3]
    rw [exr] at hp2
    refine ⟨p2, _, _, x, rfl, rfl, .inl (.inl hp2), at0 _ _, ?_⟩
    refine ⟨_, rfl, _, rfl, _, _, rfl, .inl ⟨A, z, rfl, hg, .inl ⟨B, y, rfl, hg2, fun H4 v s4 hv => ?_⟩⟩⟩
    obtain rfl := hv.uniq hx
    obtain ⟨d, hd, hsd, hed⟩ := hx.data (K := K) (H := H4)
    refine ⟨_, rfl, d, d, hd, hd, hsd, hsd, _, rfl, ?_⟩
    rw [hed]
    refine iteF ?_
    refine ⟨_, rfl, _, rfl, rfl, _, _, rfl, .inl ⟨B, y, rfl, hg2, .inl ⟨A, z, rfl, hg, fun H5 v' s5 hv' => ?_⟩⟩⟩
    obtain rfl := hv'.symm.uniq hx
    obtain ⟨d, hd, hsd, hed⟩ := hx.data (K := K) (H := H5)
    refine ⟨_, rfl, d, d, hd, hd, hsd, hsd, _, rfl, ?_⟩
    rw [hed]
    refine iteF ?_
    refine ⟨_, rfl, _, rfl, _, _, rfl, .inl ⟨A, z, rfl, hg, .inl ⟨B, y, rfl, hg2, fun H6 b1 s6 hb1 => ?_⟩⟩⟩
    refine ⟨_, rfl, _, rfl, rfl, _, _, rfl, .inl ⟨B, y, rfl, hg2, .inl ⟨A, z, rfl, hg, fun H7 b2 s7 hb2 => ?_⟩⟩⟩
    refine ⟨(by show 2 ≤ sizeLine; decide), fun p3 np3 => ?_⟩
    obtain ⟨H8, e8, s8, hp3⟩ := fresh (.lst [V.bl b1, V.bl b2]) np3
    rw [e8]
    have e1 : b1 = decide (v' = V.non) := by
      rw [Bool.eq_iff_iff, decide_eq_true_iff, hb1, hx.none]
    have e2' : b2 = decide (v' = V.non) := by
      rw [Bool.eq_iff_iff, decide_eq_true_iff, hb2, hx.none]
      exact ⟨fun h m l c => h m (by omega) (GDiff.symm.mp c), fun h m l c => h m (by omega) (GDiff.symm.mp c)⟩
    have hshow : ∀ {b : Bool} {H : Hp} {a : Addr}, H a = some (.lst [V.bl b, V.bl b]) → Shw K H (.ref a) (PyData.list [.bool b, .bool b]).shown := fun {b H a} ha => .inl ⟨.list [.bool b, .bool b], .lst (.inl (.inl ha)) (.cons (.bl b) (.cons (.bl b) .nil)), by cases b <;> decide +kernel, by cases b <;> decide +kernel, by cases b <;> decide +kernel, rfl⟩
    refine ⟨_, rfl, ?_⟩
    rw [e1, e2'] at hp3
    refine (hshow hp3).repr ?_
    refine ⟨_, rfl, rfl, _, rfl, rfl, (by show 2 ≤ sizeLine; decide), fun p4 np4 => ?_⟩
    refine (hshow (upd_same)).repr ⟨rfl, ?_⟩
    rw [decide_eq_true rfl]
    exact q _ ((((((((s1.trans s2).trans s3).trans s4).trans s5).trans s6).trans s7).trans s8).trans (same_upd np4))
end
end My

namespace My
open PySem PySem.Spec PyProof.Rows L2 Pre
/-! ### the law of growth -/
theorem goodOf {A : List Bool} {z : Bool} {hi : Nat} (h1 : 1 ≤ A.length) (h2 : A.length + 1 ≤ hi) (h3 : hi ≤ 16) (hk : Keep A z) : GoodM A z := ⟨h1, by omega, hk⟩
theorem known1 : mostG [true, false, true, true, false, false, true, true, true, false, false] false 31 = 3 := by decide +kernel
theorem kA : Keep [true, false] false := ⟨by decide, by decide⟩
theorem kB : Keep [true, false, false] false := ⟨by decide, by decide⟩
theorem mA3 : mostG [true, false] false 3 = 2 := by decide +kernel
theorem known2 : IsH [4, 3, 1] (gC [true, false] false 3) := by
  refine isH_mk ?_ ?_ ?_
  · intro k hk
    have : k = 0 ∨ k = 1 ∨ k = 2 := by have : k < 3 := hk; omega
    rcases this with rfl | rfl | rfl <;> decide +kernel
  · intro k hk
    have hk : 3 ≤ k := hk
    exact gC_over kA (by rw [mA3]; omega)
  · intro _
    decide +kernel
theorem mAs : mostG [true, false] false 0 = 0 ∧ mostG [true, false] false 1 = 0 ∧ mostG [true, false, false] false 0 = 0 ∧ mostG [true, false, false] false 1 = 0 := by decide +kernel
theorem known3 : IsPart [true, false] false [true, false, false] false (.int 2) := by
  refine .inl ⟨2, rfl, by decide, ⟨0, by decide +kernel⟩, fun m hm => ?_⟩
  rintro ⟨k, hk⟩
  obtain ⟨a0, a1, b0, b1⟩ := mAs
  have : m = 0 ∨ m = 1 := by omega
  by_cases h : k = 0
  · subst h
    rcases this with rfl | rfl
    · exact hk (by decide +kernel)
    · exact hk (by decide +kernel)
  · rcases this with rfl | rfl
    · exact hk ((gC_over kA (by rw [a0]; omega)).trans (gC_over kB (by rw [b0]; omega)).symm)
    · exact hk ((gC_over kA (by rw [a1]; omega)).trans (gC_over kB (by rw [b1]; omega)).symm)
local macro_rules | `(tactic| walk_at "go") => `(tactic| repeat (first | (with_reducible first | refine iteT ?_ | refine iteF ?_ | refine iteNtt ?_ | refine iteNff ?_ | refine iteET (by omega) ?_ | refine iteEF (by omega) ?_ | refine iteENT (by omega) ?_ | refine iteENF (by omega) ?_ | refine iteDT (by omega) ?_ | refine iteDF (by omega) ?_ | refine iteNT (by omega) ?_ | refine iteNF (by omega) ?_) | refine ⟨_, rfl, ?_⟩ | refine ⟨_, _, rfl, rfl, ?_⟩ | refine ⟨_, _, rfl, ?_⟩ | refine ⟨rfl, ?_⟩ | refine .inl ⟨_, rfl, ?_⟩ | refine .inr ⟨_, rfl, ?_⟩))
local macro_rules | `(tactic| walk_at "b") => `(tactic| try dsimp (config := { proj := false, iota := false, eta := false, zeta := false }) only)
section
variable {P : Program} {w : World} {K : PySem.W.Frag} {mg : Str → Option Value} {base : Heap} [pf : Sup.PF P fileS]
def sp_law (K : PySem.W.Frag) : Sp := fun vs H Q _ => ∃ (a : Addr) (ns : List Int), vs = [.ref a] ∧ SqL K H a (ns.map V.int) ∧ ns.length ≤ 63 ∧ ∀ H', Q (.bl true) H'
theorem G_law (T : Top K mg) : FnG P w K mg base CX0 10 T.f_law T.fd_law ["_law_script"] (sp_law K) := by
  refine FnG.body T.F_law sc_law (fun vs H Q E h => by obtain ⟨a, ns, rfl, _⟩ := h; rfl) (fun cdv A outer s H vs Q E gd hr h => ?_)
  obtain ⟨a, ns, rfl, hS, hz, q⟩ := h
  refine ⟨_, PSs.nox (pss_cons (ps_set (i := 1) sc_law.nd rfl (by first | exact Or.inl rfl | exact Or.inr rfl) (pe_call (G_law_pump (P := P) T) (hr.mono (by decide)) (by rfl) T.g_law_pump T.F_law_pump.kp T.b_law_pump .nil pass0 (pa_cons (pv 0) (pa_cons pe_int pa_nil))))
  (pss_cons (ps_set (i := 2) sc_law.nd rfl (by first | exact Or.inl rfl | exact Or.inr rfl) (pe_call (G_law_keepable_mark (P := P) T) (hr.mono (by decide)) (by rfl) T.g_law_keepable_mark T.F_law_keepable_mark.kp T.b_law_keepable_mark .nil pass0 (pa_cons (pv 1) (pa_cons pe_int (pa_cons pe_int pa_nil)))))
  (pss_cons (ps_for PassesOwn.never rfl (k_piL K rfl (pe_lst (pa_cons (pv 2) (pa_cons (pe_call (G_law_keepable_mark (P := P) T) (hr.mono (by decide)) (by rfl) T.g_law_keepable_mark T.F_law_keepable_mark.kp T.b_law_keepable_mark .nil pass0 (pa_cons (pv 1) (pa_cons pe_int (pa_cons pe_int pa_nil)))) pa_nil)))) (pg_name (i := 3) sc_law.nd rfl (by first | exact Or.inl rfl | exact Or.inr rfl))
    (pss_one (ps_if (PW.pt (pw_or (pt_cmpR (k_neD K rfl hr.units) (pe_lc (own := [("_law_many", 6)]) (g := gName 6) (by rfl) sc_law.nd (pi_range1 (by rfl) T.n_range (pa_cons pe_int pa_nil)) (blkOk_by (own := [("_law_many", 6)]) (N := N_law) (sc := defScope s_law) (by decide +kernel)) (fun _ _ _ _ _ => (pg_name (i := 6) sc_law.nd rfl (by first | exact Or.inl rfl | exact Or.inr rfl))) (fun _ _ _ _ _ => (pts_one (pt_not (pt_val (pe_call (G_law_small_right (P := P) T) (hr.mono (by decide)) (by rfl) T.g_law_small_right T.F_law_small_right.kp T.b_law_small_right .nil pass0 (pa_cons (pv 3) (pa_cons (pv 6) pa_nil))))))) (fun _ _ _ _ _ => (pv 6))) (pe_lst pa_nil) (nomark _)) (pw_or1 (pt_not (pt_val (pe_call (G_law_great_right (P := P) T) (hr.mono (by decide)) (by rfl) T.g_law_great_right T.F_law_great_right.kp T.b_law_great_right .nil pass0 (pa_cons (pv 1) (pa_cons (pv 3) pa_nil))))))))
    (pss_one (ps_ret pe_bl))
    pss_nil)))
  (pss_cons (ps_par (by rfl) sc_law.nd (i := 4) (j := 5) rfl rfl (by decide) rfl rfl (pa_cons (pe_call (G_law_keepable_mark (P := P) T) (hr.mono (by decide)) (by rfl) T.g_law_keepable_mark T.F_law_keepable_mark.kp T.b_law_keepable_mark .nil pass0 (pa_cons (pv 1) (pa_cons pe_int (pa_cons pe_int pa_nil)))) (pa_cons (pe_call (G_law_keepable_mark (P := P) T) (hr.mono (by decide)) (by rfl) T.g_law_keepable_mark T.F_law_keepable_mark.kp T.b_law_keepable_mark .nil pass0 (pa_cons (pv 1) (pa_cons pe_int (pa_cons pe_int pa_nil)))) pa_nil)) (by rfl))
  (pss_cons (ps_if (PW.pt (pw_or (pt_not (pt_val (pe_callG (G_law_pair_right (P := P) T) gd (hr.mono (by decide)) (by rfl) T.g_law_pair_right T.F_law_pair_right.kp T.b_law_pair_right .nil pass0 (pa_cons (pv 4) (pa_cons (pv 5) pa_nil))))) (pw_or1 (pt_not (pt_val (pe_callG (G_law_pair_right (P := P) T) gd (hr.mono (by decide)) (by rfl) T.g_law_pair_right T.F_law_pair_right.kp T.b_law_pair_right .nil pass0 (pa_cons (pv 4) (pa_cons (pe_call (G_law_other_bits (P := P) T) (hr.mono (by decide)) (by rfl) T.g_law_other_bits T.F_law_other_bits.kp T.b_law_other_bits .nil pass0 (pa_cons (pv 4) pa_nil)) pa_nil))))))))
    (pss_one (ps_ret pe_bl))
    pss_nil)
  (pss_cons (ps_if (PW.pt (pw_or (pt_cmpR op_ne (pe_call (G_most_growth (P := P) T) (hr.mono (by decide)) (by rfl) T.g_most_growth T.F_most_growth.kp T.b_most_growth .nil passL (pa_cons pe_str (pa_cons pe_int pa_nil))) pe_int (nomark _)) (pw_or (pt_cmpR (k_neD K rfl hr.units) (pe_call (G_growths (P := P) T) (hr.mono (by decide)) (by rfl) T.g_growths T.F_growths.kp T.b_growths .nil passL (pa_cons pe_str (pa_cons pe_int pa_nil))) (pe_lst (pa_cons pe_int (pa_cons pe_int (pa_cons pe_int pa_nil)))) (nomark _)) (pw_or1 (pt_cmpR (k_neD K rfl hr.units) (pe_call (G_parting_growth (P := P) T) (hr.mono (by decide)) (by rfl) T.g_parting_growth T.F_parting_growth.kp T.b_parting_growth .nil passL (pa_cons pe_str (pa_cons pe_str pa_nil))) pe_int (nomark _))))))
    (pss_one (ps_ret pe_bl))
    pss_nil)
  (pss_one (ps_ret (pe_and (pe_call (G_same_growths (P := P) T) (hr.mono (by decide)) (by rfl) T.g_same_growths T.F_same_growths.kp T.b_same_growths .nil passL (pa_cons (pv 2) (pa_cons (pe_call (G_law_other_bits (P := P) T) (hr.mono (by decide)) (by rfl) T.g_law_other_bits T.F_law_other_bits.kp T.b_law_other_bits .nil pass0 (pa_cons (pv 2) pa_nil)) pa_nil))) (pe_one (pe_callG (G_law_refused (P := P) T) gd (hr.mono (by decide)) (by rfl) T.g_law_refused T.F_law_refused.kp T.b_law_refused .nil pass0 (pa_cons (pv 2) pa_nil)))))))))))), ?_⟩
  refine ⟨_, rfl, a, ns, rfl, hS, hz, fun H1 g s1 ng g1 => ?_⟩
  refine ⟨_, rfl, g, 2, 10, rfl, g1, (by decide), (by decide), (by decide), fun H2 A z b2 g2 h1 h2 hk => ?_⟩
  have hg : GoodM A z := goodOf h1 h2 (by decide) hk
  refine ⟨_, rfl, _, rfl, g, 2, 4, rfl, g2, (by decide), (by decide), (by decide), fun H3 A2 z2 b3 g3 i1 i2 ik => ?_⟩
  have hg2 : GoodM A2 z2 := goodOf i1 i2 (by decide) ik
  refine ⟨(by show 2 ≤ sizeLine; decide), fun p np => ?_⟩
  obtain ⟨H4, e4, s4, hp⟩ := fresh (.lst [V.str (bS (A ++ [z])), V.str (bS (A2 ++ [z2]))]) np
  rw [e4]
  have npg : p ≠ g := g3.ne np
  refine ⟨p, rfl, ⟨_, .inl (.inl hp)⟩, for_list (K := K) (a := p) (xs := [V.str (bS (A ++ [z])), V.str (bS (A2 ++ [z2]))]) (fun i σ HA => ∃ v3 : Option V, σ = [some (.ref a), some (.ref g), some (.str (bS (A ++ [z]))), v3, none, none, none] ∧ But g H4 HA ∧ PumpAt HA g) ⟨none, rfl, But.refl, g3.same s4⟩ (fun i σ HA _ ⟨_, _, b, _⟩ => .inl (.inl (b _ _ npg hp))) ?_ ?_⟩
  · rintro i x σ HA hx ⟨v3, rfl, bA, gA⟩
    obtain ⟨B, y, rfl, hB⟩ : ∃ (B : List Bool) (y : Bool), x = .str (bS (B ++ [y])) ∧ GoodM B y := by
      match i, hx with
      | 0, hx => cases hx; exact ⟨A, z, rfl, hg⟩
      | 1, hx => cases hx; exact ⟨A2, z2, rfl, hg2⟩
      | i + 2, hx => simp at hx
    refine ⟨_, rfl, (by decide), (by decide), fun D nD => ?_⟩
    refine lc_selR (lo := 0) (n := ((9 : Int)).toNat) ((List.range 9).map fun _ => none) nD (by decide) (by decide) (fun x => rfl) ?_ ?_
    · intro j o H' hj ho s Qt qt
      rw [List.getElem?_map] at ho
      obtain ⟨_, _, rfl⟩ := Option.map_eq_some_iff.mp ho
      rw [Int.zero_add]
      have hj9 : j < 9 := hj
      refine ⟨_, rfl, _, rfl, B, y, j, rfl, hB, by omega, fun H'' s' => ⟨_, rfl, iteF (qt _ s')⟩⟩
    · intro HB sB hD
      rw [fm_noneN] at hD
      refine ⟨Nat.zero_le _, fun p2 np2 => ?_⟩
      refine ne_lst (ns := []) (.inl (.inl (same_upd np2 _ _ hD))) (.inl (.inl upd_same)) ⟨_, rfl, iteF ?_⟩
      refine ⟨_, rfl, _, rfl, g, B, y, rfl, hB, gA.same (sB.trans (same_upd np2)), fun HC bC gC => ⟨_, rfl, iteF ?_⟩⟩
      exact ⟨_, rfl, (bA.same (sB.trans (same_upd np2))).trans bC, gC⟩
  · rintro σ HA ⟨v3, rfl, bA, gA⟩
    refine ⟨_, rfl, g, 2, 4, rfl, gA, (by decide), (by decide), (by decide), fun H5 B y b5 g5 j1 j2 jk => ?_⟩
    have hB : GoodM B y := goodOf j1 j2 (by decide) jk
    refine ⟨_, rfl, g, 2, 4, rfl, g5, (by decide), (by decide), (by decide), fun H6 C u b6 g6 l1 l2 lk => ?_⟩
    have hC : GoodM C u := goodOf l1 l2 (by decide) lk
    refine ⟨_, _, rfl, ?_⟩
    refine ⟨_, rfl, _, rfl, B, y, C, u, rfl, hB, hC, by omega, by omega, fun H7 s7 => ⟨_, rfl, iteF ?_⟩⟩
    refine ⟨_, rfl, _, rfl, B ++ [y], rfl, by rw [List.length_append, List.length_singleton]; omega, fun H8 s8 => ?_⟩
    refine ⟨B, y, cm B, !y, by rw [cm_app]; rfl, hB, cm_good hB, by omega, by rw [cm_len]; omega, fun H9 s9 => ⟨_, rfl, iteF ?_⟩⟩
    refine ⟨_, _, rfl, .inl ⟨[true, false, true, true, false, false, true, true, true, false, false], false, congrArg V.str (by decide +kernel), by decide, by decide, ⟨by decide, by decide⟩, .inl ⟨31, rfl, by decide, fun H10 s10 => ?_⟩⟩⟩
    rw [known1]
    refine ⟨rfl, _, rfl, iteF ?_⟩
    refine ⟨_, _, rfl, .inl ⟨[true, false], false, congrArg V.str (by decide +kernel), by decide, by decide, kA, .inl ⟨3, rfl, by decide, fun H11 q1 L s11 nq1 hq1 hL => ?_⟩⟩⟩
    obtain rfl := hL.uniq known2
    refine ⟨(by show 3 ≤ sizeLine; decide), fun q2 nq2 => ?_⟩
    refine neD_lst (ns := nI [4, 3, 1]) (ms := nI [4, 3, 1]) (.inl (.inl (same_upd nq2 _ _ hq1))) (.inl (.inl upd_same)) ⟨_, rfl, iteF ?_⟩
    refine ⟨_, _, rfl, .inl ⟨[true, false], false, congrArg V.str (by decide +kernel), ⟨by decide, by decide, kA⟩, .inl ⟨[true, false, false], false, congrArg V.str (by decide +kernel), ⟨by decide, by decide, kB⟩, fun H12 v s12 hv => ?_⟩⟩⟩
    obtain rfl := hv.uniq known3
    refine ⟨.int 2, .int 2, .int 2, .int 2, rfl, rfl, _, rfl, iteF ?_⟩
    refine ⟨_, rfl, _, rfl, A ++ [z], rfl, by rw [List.length_append, List.length_singleton]; omega, fun H13 s13 => ?_⟩
    refine ⟨_, _, rfl, .inl ⟨A, z, rfl, hg, .inl ⟨cm A, !z, by rw [cm_app]; rfl, cm_good hg, fun H14 b s14 hb => ?_⟩⟩⟩
    have eb : b = true := hb.mpr fun m _ ⟨k, hk⟩ => hk (gC_cm A z m k).symm
    subst eb
    refine ⟨true, rfl, iteT ?_⟩
    exact ⟨_, rfl, A, z, rfl, hg, fun H' _ => q _⟩
end
end My

open PySem PySem.W PySem.Calls PyProof.Rows
set_option maxRecDepth 100000 in
set_option maxHeartbeats 0 in
theorem PySem.Challenge.cw_wholesound_k92_how_rows_grow_holds : PySem.Challenge.rw_wholesound_k92_how_rows_grow.Holds := by
  w_on; o_law
  refine HandSHeadRun.head_any (r := OpenLaw.row PySem.Challenge.rw_wholesound_k92_how_rows_grow) (q := view (OpenLaw.row PySem.Challenge.rw_wholesound_k92_how_rows_grow).prog [50]) (H := My.hk) (ob := My.ob) (M := 8000) (loose := My.loose) (d := HandSHeadRun.topDef (OpenLaw.row PySem.Challenge.rw_wholesound_k92_how_rows_grow).prog 50) (kwd := []) My.ob_eq
    (by kernel_rfl) (fun s => by kernel_rfl) My.run (by kernel_rfl) (by kernel_rfl) (by kernel_rfl) (by rfl) (by first | assumption | decide +kernel) (by decide +kernel) ⟨rfl, rfl, rfl, rfl, rfl, by decide +kernel⟩ ?hw ?hc
  case hw => w_witness2
  case hc =>
    refine My.end_g (l := PySem.Challenge.rw_wholesound_k92_how_rows_grow) (n := 63) (k := 10) (x := "_law_script") rfl (by decide) (by kernel_rfl) ⟨rfl, by decide, by decide⟩ ?F
    intro w mg fa h Y G hmg0
    obtain ⟨K, KX, c⟩ := Y
    have hmg : mg ("law" : PySem.Str) = some (.ref fa) := by
      have e : (HandSHeadRun.topDef (OpenLaw.row PySem.Challenge.rw_wholesound_k92_how_rows_grow).prog 50).name = ("law" : PySem.Str) := by kernel_rfl
      rw [← e]
      exact hmg0
    have T : My.Top K mg := My.top_mk KX G c
    have e := hmg.symm.trans T.g_law
    cases e
    have b := L2.FunD.bindsA (ps := ["_law_script"]) T.F_law fun _ _ _ _ _ _ us hl => match us, hl with | [_], _ => rfl
    exact ⟨K, T.fd_law, My.sp_law K, KX, fun s v => b s [v] rfl, fun H a ns hl hS => ⟨a, ns, rfl, hS, hl, fun _ => rfl⟩, fun base _ _ => My.G_law (pf := ⟨by kernel_rfl, by kernel_rfl⟩) T⟩


