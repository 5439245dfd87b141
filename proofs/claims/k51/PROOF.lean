import PyProof.Rows.All
import Wide.All
import OpenK.AllK
import Wide.FinOn
import KE.KStateDown
import Lean
import HandS.ForMost
import HandS.Exc
import HandS.Flow
import HandS.DictComp
import HandS.Style
import HandS.Wide
import HandS.WideBits
import HandS.IsInst
import HandS.Codes
import HandS.Walk
import HandS.Words
import HandS.WordsExc
import HandS.Defaults
import HandS.Head0
import HandS.Head1
import HandS.Head2
import HandS.HeadEnd
import HandS.HeadHook1
import HandS.HeadHook2
import HandS.SortInts
import PyProof.Rows.SortShellAny
import PyProof.InstNe
import KE.DataMinMax
import KE.SortData
import KE.IntBitsLaws
import KE.BitLaws
import HandS.Deep
import HandS.SetKeys
import PyProof.Rows.StrMul
import HandS.TupLe
import HandS.Property
import HandS.Conv
import HandS.NoneIn
import HandS.SetFor
import HandS.Strs
import HandS.Sort
import HandS.StrMore
import HandS.ExcInit
import HandS.ExcSuper
import HandS.Nested
import KE.KExcSuper
import HandS.ExcField
import HandS.TryMany
import HandS.ExcIs
import HandS.TryOnly
import HandS.CallSlots
import KE.KDictDisplayH
import PyProof.StrLawsFirst
import KE.GoesZip
import KE.GoesMore
import HandS.Zip
import PyProof.CallType
import PyProof.ZipIter
import PyProof.TupleIter
import PyProof.Rows.CallKwBuiltin
import HandS.Star
import HandS.OwnEq
import PySem.Challenge.RW_wholesound_k51_rows_by_their_numbers
set_option Elab.async false
set_option linter.all false
set_option maxRecDepth 100000
set_option maxHeartbeats 4000000
set_option exponentiation.threshold 100000
namespace Pre
open PySem PySem.Spec PyProof.Rows L2
/-! ### heaps -/
theorem same_upd {H : Hp} {p : Addr} {o : HO} (h : H p = none) : Same H (upd H p o) := fun b x e => by
  rw [upd_ne (ne_of_none e h)]
  exact e
/-- a fresh thing that is then changed is no change of what was -/
theorem same_over {H H' : Hp} {p : Addr} {o : HO} (n : H p = none) (s : Same H H') : Same H (upd H' p o) := fun b x e => by
  rw [upd_ne (ne_of_none e n)]
  exact s b x e
theorem Same.tup {K : PySem.W.Frag} {H H' : Hp} {a : Addr} {xs : List V} (e : Same H H') (h : SqT K H a xs) : SqT K H' a xs := by
  rcases h with (h | ⟨o, h⟩) | h
  · exact .inl (.inl (e _ _ h))
  · exact .inl (.inr ⟨o, e _ _ h⟩)
  · exact .inr h
mutual
theorem dp_same {K : PySem.W.Frag} {H H' : Hp} (s : Same H H') : ∀ (d : PyData) (v : V), Dp K H v d → Dp K H' v d
  | .none, _, h => by cases h; exact .non
  | .bool _, _, h => by cases h; exact .bl _
  | .int _, _, h => by cases h; exact .int _
  | .str _, _, h => by cases h; exact .str _
  | .list ds, _, h => by cases h with | lst a b => exact .lst (s.seq a) (dps_same s ds _ b)
  | .tuple ds, _, h => by cases h with | tup a b => exact .tup (Same.tup s a) (dps_same s ds _ b)
  | .dict _, _, h => nomatch h
theorem dps_same {K : PySem.W.Frag} {H H' : Hp} (s : Same H H') : ∀ (ds : List PyData) (vs : List V), DpAll K H vs ds → DpAll K H' vs ds
  | [], _, h => by cases h; exact .nil
  | d :: ds, _, h => by cases h with | cons a b => exact .cons (dp_same s d _ a) (dps_same s ds _ b)
end
theorem dp_ints {K : PySem.W.Frag} {H : Hp} : ∀ ns : List Int, DpAll K H (ns.map V.int) (ns.map PyData.int)
  | [] => .nil
  | n :: r => .cons (.int n) (dp_ints r)
theorem eqv_ints : ∀ ns ms : List Int, PyData.eqvAll (ns.map PyData.int) (ms.map PyData.int) = decide (ns = ms)
  | [], [] => rfl
  | [], _ :: _ => rfl
  | _ :: _, [] => rfl
  | n :: r, m :: q => by
    show (PyData.eqv (.int n) (.int m) && PyData.eqvAll (r.map PyData.int) (q.map PyData.int)) = decide (n :: r = m :: q)
    rw [eqv_ints r q]
    show ((n == m) && decide (r = q)) = decide (n :: r = m :: q)
    by_cases h : n = m
    · subst h; simp
    · simp [h]
theorem lay_ints : ∀ ns : List Int, PyData.canLayAll0 (ns.map PyData.int) = true
  | [] => rfl
  | n :: r => by
    show (PyData.canLay0 (.int n) && PyData.canLayAll0 (r.map PyData.int)) = true
    rw [lay_ints r]
    rfl
theorem depth_ints : ∀ ns : List Int, PyData.depthAll (ns.map PyData.int) = 0
  | [] => by simp [PyData.depthAll]
  | n :: r => by
    show PyData.depthAll (.int n :: r.map PyData.int) = 0
    rw [PyData.depthAll, depth_ints r]
    simp [PyData.depth]
theorem shaped_ints (ns : List Int) : SeqAt.shaped (.list (ns.map PyData.int)) = true := by
  unfold SeqAt.shaped
  rw [PyData.canLay0, lay_ints, PyData.depth, depth_ints]
  rfl
theorem shaped_tup (ns : List Int) : SeqAt.shaped (.tuple (ns.map PyData.int)) = true := by
  unfold SeqAt.shaped
  rw [PyData.canLay0, lay_ints, PyData.depth, depth_ints]
  rfl
/-! ### comparisons of lists and tuples of whole numbers that are told alike -/
theorem ne_tup {K : PySem.W.Frag} {H : Hp} {a b : Addr} {ns : List Int} {Q : V → Hp → Prop} (ha : SqT K H a (ns.map V.int)) (hb : SqT K H b (ns.map V.int)) (q : Q (.bl false) H) : rNeD K (.ref a) (.ref b) H Q := by
  refine ⟨.tuple (ns.map PyData.int), .tuple (ns.map PyData.int), .tup ha (dp_ints ns), .tup hb (dp_ints ns), shaped_tup ns, shaped_tup ns, ?_⟩
  rw [PyData.eqv, eqv_ints, decide_eq_true rfl]
  exact q
theorem eq_tup {K : PySem.W.Frag} {H : Hp} {a b : Addr} {ns : List Int} {Q : V → Hp → Prop} (ha : SqT K H a (ns.map V.int)) (hb : SqT K H b (ns.map V.int)) (q : Q (.bl true) H) : rEqD K (.ref a) (.ref b) H Q := by
  refine ⟨.tuple (ns.map PyData.int), .tuple (ns.map PyData.int), .tup ha (dp_ints ns), .tup hb (dp_ints ns), shaped_tup ns, shaped_tup ns, ?_⟩
  rw [PyData.eqv, eqv_ints, decide_eq_true rfl]
  exact q
/-- lists of whole numbers, compared -/
theorem eqD_lst {K : PySem.W.Frag} {H : Hp} {a b : Addr} {ns ms : List Int} {Q : V → Hp → Prop} (ha : SqL K H a (ns.map V.int)) (hb : SqL K H b (ms.map V.int)) (q : Q (.bl (decide (ns = ms))) H) : rEqD K (.ref a) (.ref b) H Q := by
  refine ⟨.list (ns.map PyData.int), .list (ms.map PyData.int), .lst ha (dp_ints ns), .lst hb (dp_ints ms), shaped_ints ns, shaped_ints ms, ?_⟩
  rw [PyData.eqv, eqv_ints]
  exact q
theorem neD_lst {K : PySem.W.Frag} {H : Hp} {a b : Addr} {ns ms : List Int} {Q : V → Hp → Prop} (ha : SqL K H a (ns.map V.int)) (hb : SqL K H b (ms.map V.int)) (q : Q (.bl (!decide (ns = ms))) H) : rNeD K (.ref a) (.ref b) H Q := by
  refine ⟨.list (ns.map PyData.int), .list (ms.map PyData.int), .lst ha (dp_ints ns), .lst hb (dp_ints ms), shaped_ints ns, shaped_ints ms, ?_⟩
  rw [PyData.eqv, eqv_ints]
  exact q
theorem ne_lst {K : PySem.W.Frag} {H : Hp} {a b : Addr} {ns : List Int} {Q : V → Hp → Prop} (ha : SqL K H a (ns.map V.int)) (hb : SqL K H b (ns.map V.int)) (q : Q (.bl false) H) : rNeD K (.ref a) (.ref b) H Q :=
  neD_lst ha hb (by rw [decide_eq_true rfl]; exact q)
theorem eq_lst {K : PySem.W.Frag} {H : Hp} {a b : Addr} {ns : List Int} {Q : V → Hp → Prop} (ha : SqL K H a (ns.map V.int)) (hb : SqL K H b (ns.map V.int)) (q : Q (.bl true) H) : rEqD K (.ref a) (.ref b) H Q :=
  eqD_lst ha hb (by rw [decide_eq_true rfl]; exact q)
/-! ### powers -/
def CPowW (i j : Int) : Prop := 0 ≤ j ∧ (Builtin.Int.intBits i : Int) * j ≤ 2 ^ 27
theorem op_powW {X : Cx} : OpR X (binaryOp .Pow) (rI CPowW fun i j => .int (i ^ j.toNat)) := opI fun _ _ _ _ _ _ _ hc q => pow_int hc.1 hc.2 q
/-! ### comprehensions whose parts leave what is tracked as it is: sel tells of each item what comes of it -/
theorem take_fm {α : Type} {l : List (Option α)} {i : Nat} {o : Option α} (h : l[i]? = some o) : (l.take (i + 1)).filterMap id = (l.take i).filterMap id ++ o.toList := by
  rw [List.take_add_one, h, List.filterMap_append]
  cases o <;> rfl
theorem fm_len {α : Type} (l : List (Option α)) (i : Nat) : ((l.take i).filterMap id).length ≤ l.length :=
  Nat.le_trans (List.length_filterMap_le _ _) (by rw [List.length_take]; omega)
theorem lc_selL {K : PySem.W.Frag} {a : Addr} {xs : List V} {j : Nat} {tt : TT} {te : TE} {vs : List Nat} {σ : L2.St} {H1 : Hp} {D : Addr} {Qd : Hp → Prop} (sel : List (Option V)) (nD : H1 D = none) (hS : SqL K H1 a xs) (hlen : sel.length = xs.length) (hz : xs.length < sizeLine)
    (hw : ∀ x, wipe ((wipe σ vs).set j (some x)) vs = wipe σ vs)
    (hs : ∀ (i : Nat) (x : V) (o : Option V) (H' : Hp), xs[i]? = some x → sel[i]? = some o → Same H1 H' → ∀ Qt : Option V → Hp → Prop, (∀ H'', Same H' H'' → Qt o H'') →
      tt ((wipe σ vs).set j (some x)) H' fun b H3 => if b = true then te ((wipe σ vs).set j (some x)) H3 fun y H4 => Qt (some y) H4 else Qt none H3)
    (hd : ∀ H', Same H1 H' → H' D = some (.lst (sel.filterMap id)) → Qd H') :
    ∃ W : Nat → Nat → Hp → Prop, (∃ m, W 0 m (upd H1 D (.lst []))) ∧ ∀ i m H, W i m H →
      ((Itl K a).stop i H ∧ Qd H) ∨ ((Itl K a).go i H ∧ ∃ Nx : Hp → Prop, (∀ H', Nx H' → ∃ m', m' < m ∧ W (i + 1) m' H') ∧ ∀ x H', (Itl K a).yld i H x H' → gName j x (wipe σ vs) H' fun σ2 H2 => wipe σ2 vs = wipe σ vs ∧ tt σ2 H2 fun b H3 =>
        if b = true then te σ2 H3 fun y H4 => ∃ acc, H4 D = some (.lst acc) ∧ acc.length < sizeLine ∧ Nx (upd H4 D (.lst (acc ++ [y]))) else Nx H3) := by
  refine lc_list (K := K) (a := a) (xs := xs) (fun i H => Same H1 H ∧ H D = some (.lst ((sel.take i).filterMap id))) ⟨same_upd nD, upd_same⟩ (fun i H _ p => p.1.seq hS) ?_ ?_
  · rintro i x H hx ⟨s, hD⟩
    refine ⟨hw x, ?_⟩
    have hi : i < sel.length := by rw [hlen]; exact (List.getElem?_eq_some_iff.mp hx).1
    have ho : sel[i]? = some sel[i] := List.getElem?_eq_getElem hi
    have hl : ((sel.take i).filterMap id).length < sizeLine := Nat.lt_of_le_of_lt (fm_len sel i) (by omega)
    refine hs i x sel[i] H hx ho s (fun o H4 => match o with
      | some y => ∃ acc, H4 D = some (.lst acc) ∧ acc.length < sizeLine ∧ (Same H1 (upd H4 D (.lst (acc ++ [y]))) ∧ (upd H4 D (.lst (acc ++ [y]))) D = some (.lst ((sel.take (i + 1)).filterMap id)))
      | none => Same H1 H4 ∧ H4 D = some (.lst ((sel.take (i + 1)).filterMap id))) fun H4 s4 => ?_
    generalize sel[i] = o at ho ⊢
    cases o with
    | some y =>
      refine ⟨_, s4 _ _ hD, hl, same_over nD (s.trans s4), ?_⟩
      rw [upd_same, take_fm ho]
      rfl
    | none =>
      refine ⟨s.trans s4, ?_⟩
      rw [take_fm ho, s4 _ _ hD]
      simp
  · rintro H ⟨s, hD⟩
    refine hd H s ?_
    rw [hD, ← hlen, List.take_length]
theorem lc_selR {lo : Int} {n : Nat} {j : Nat} {tt : TT} {te : TE} {vs : List Nat} {σ : L2.St} {H1 : Hp} {D : Addr} {Qd : Hp → Prop} (sel : List (Option V)) (nD : H1 D = none) (hlen : sel.length = n) (hz : n < sizeLine)
    (hw : ∀ x, wipe ((wipe σ vs).set j (some x)) vs = wipe σ vs)
    (hs : ∀ (i : Nat) (o : Option V) (H' : Hp), i < n → sel[i]? = some o → Same H1 H' → ∀ Qt : Option V → Hp → Prop, (∀ H'', Same H' H'' → Qt o H'') →
      tt ((wipe σ vs).set j (some (.int (lo + (i : Int))))) H' fun b H3 => if b = true then te ((wipe σ vs).set j (some (.int (lo + (i : Int))))) H3 fun y H4 => Qt (some y) H4 else Qt none H3)
    (hd : ∀ H', Same H1 H' → H' D = some (.lst (sel.filterMap id)) → Qd H') :
    ∃ W : Nat → Nat → Hp → Prop, (∃ m, W 0 m (upd H1 D (.lst []))) ∧ ∀ i m H, W i m H →
      ((Itr lo n).stop i H ∧ Qd H) ∨ ((Itr lo n).go i H ∧ ∃ Nx : Hp → Prop, (∀ H', Nx H' → ∃ m', m' < m ∧ W (i + 1) m' H') ∧ ∀ x H', (Itr lo n).yld i H x H' → gName j x (wipe σ vs) H' fun σ2 H2 => wipe σ2 vs = wipe σ vs ∧ tt σ2 H2 fun b H3 =>
        if b = true then te σ2 H3 fun y H4 => ∃ acc, H4 D = some (.lst acc) ∧ acc.length < sizeLine ∧ Nx (upd H4 D (.lst (acc ++ [y]))) else Nx H3) := by
  refine lc_range (lo := lo) (n := n) (fun i H => Same H1 H ∧ H D = some (.lst ((sel.take i).filterMap id))) ⟨same_upd nD, upd_same⟩ ?_ ?_
  · rintro i H hi' ⟨s, hD⟩
    refine ⟨hw _, ?_⟩
    have hi : i < sel.length := by rw [hlen]; exact hi'
    have ho : sel[i]? = some sel[i] := List.getElem?_eq_getElem hi
    have hl : ((sel.take i).filterMap id).length < sizeLine := Nat.lt_of_le_of_lt (fm_len sel i) (by omega)
    refine hs i sel[i] H hi' ho s (fun o H4 => match o with
      | some y => ∃ acc, H4 D = some (.lst acc) ∧ acc.length < sizeLine ∧ (Same H1 (upd H4 D (.lst (acc ++ [y]))) ∧ (upd H4 D (.lst (acc ++ [y]))) D = some (.lst ((sel.take (i + 1)).filterMap id)))
      | none => Same H1 H4 ∧ H4 D = some (.lst ((sel.take (i + 1)).filterMap id))) fun H4 s4 => ?_
    generalize sel[i] = o at ho ⊢
    cases o with
    | some y =>
      refine ⟨_, s4 _ _ hD, hl, same_over nD (s.trans s4), ?_⟩
      rw [upd_same, take_fm ho]
      rfl
    | none =>
      refine ⟨s.trans s4, ?_⟩
      rw [take_fm ho, s4 _ _ hD]
      simp
  · rintro H ⟨s, hD⟩
    refine hd H s ?_
    rw [hD, ← hlen, List.take_length]
theorem fm_some {α : Type} (ys : List α) : (ys.map some).filterMap id = ys := by
  rw [List.filterMap_map]
  show List.filterMap (fun y => some y) ys = ys
  exact List.filterMap_some
/-- no test: ys tells what comes of each item -/
theorem lc_mapL {K : PySem.W.Frag} {a : Addr} {xs : List V} {j : Nat} {te : TE} {vs : List Nat} {σ : L2.St} {H1 : Hp} {D : Addr} {Qd : Hp → Prop} (ys : List V) (nD : H1 D = none) (hS : SqL K H1 a xs) (hlen : ys.length = xs.length) (hz : xs.length < sizeLine)
    (hw : ∀ x, wipe ((wipe σ vs).set j (some x)) vs = wipe σ vs)
    (hs : ∀ (i : Nat) (x y : V) (H' : Hp), xs[i]? = some x → ys[i]? = some y → Same H1 H' → ∀ Qt : V → Hp → Prop, (∀ H'', Same H' H'' → Qt y H'') → te ((wipe σ vs).set j (some x)) H' Qt)
    (hd : ∀ H', Same H1 H' → H' D = some (.lst ys) → Qd H') :
    ∃ W : Nat → Nat → Hp → Prop, (∃ m, W 0 m (upd H1 D (.lst []))) ∧ ∀ i m H, W i m H →
      ((Itl K a).stop i H ∧ Qd H) ∨ ((Itl K a).go i H ∧ ∃ Nx : Hp → Prop, (∀ H', Nx H' → ∃ m', m' < m ∧ W (i + 1) m' H') ∧ ∀ x H', (Itl K a).yld i H x H' → gName j x (wipe σ vs) H' fun σ2 H2 => wipe σ2 vs = wipe σ vs ∧ tYes σ2 H2 fun b H3 =>
        if b = true then te σ2 H3 fun y H4 => ∃ acc, H4 D = some (.lst acc) ∧ acc.length < sizeLine ∧ Nx (upd H4 D (.lst (acc ++ [y]))) else Nx H3) := by
  refine lc_selL (K := K) (a := a) (xs := xs) (tt := tYes) (ys.map some) nD hS (by rw [List.length_map]; exact hlen) hz hw ?_ ?_
  · intro i x o H' hx ho s Qt qt
    rw [List.getElem?_map] at ho
    obtain ⟨y, hy, rfl⟩ := Option.map_eq_some_iff.mp ho
    show if true = true then te ((wipe σ vs).set j (some x)) H' (fun y H4 => Qt (some y) H4) else Qt none H'
    exact iteT (hs i x y H' hx hy s (fun y H4 => Qt (some y) H4) qt)
  · intro H' s hD
    rw [fm_some] at hD
    exact hd H' s hD
theorem lc_mapR {lo : Int} {n : Nat} {j : Nat} {te : TE} {vs : List Nat} {σ : L2.St} {H1 : Hp} {D : Addr} {Qd : Hp → Prop} (ys : List V) (nD : H1 D = none) (hlen : ys.length = n) (hz : n < sizeLine)
    (hw : ∀ x, wipe ((wipe σ vs).set j (some x)) vs = wipe σ vs)
    (hs : ∀ (i : Nat) (y : V) (H' : Hp), i < n → ys[i]? = some y → Same H1 H' → ∀ Qt : V → Hp → Prop, (∀ H'', Same H' H'' → Qt y H'') → te ((wipe σ vs).set j (some (.int (lo + (i : Int))))) H' Qt)
    (hd : ∀ H', Same H1 H' → H' D = some (.lst ys) → Qd H') :
    ∃ W : Nat → Nat → Hp → Prop, (∃ m, W 0 m (upd H1 D (.lst []))) ∧ ∀ i m H, W i m H →
      ((Itr lo n).stop i H ∧ Qd H) ∨ ((Itr lo n).go i H ∧ ∃ Nx : Hp → Prop, (∀ H', Nx H' → ∃ m', m' < m ∧ W (i + 1) m' H') ∧ ∀ x H', (Itr lo n).yld i H x H' → gName j x (wipe σ vs) H' fun σ2 H2 => wipe σ2 vs = wipe σ vs ∧ tYes σ2 H2 fun b H3 =>
        if b = true then te σ2 H3 fun y H4 => ∃ acc, H4 D = some (.lst acc) ∧ acc.length < sizeLine ∧ Nx (upd H4 D (.lst (acc ++ [y]))) else Nx H3) := by
  refine lc_selR (lo := lo) (n := n) (tt := tYes) (ys.map some) nD (by rw [List.length_map]; exact hlen) hz hw ?_ ?_
  · intro i o H' hi ho s Qt qt
    rw [List.getElem?_map] at ho
    obtain ⟨y, hy, rfl⟩ := Option.map_eq_some_iff.mp ho
    show if true = true then te ((wipe σ vs).set j (some (.int (lo + (i : Int))))) H' (fun y H4 => Qt (some y) H4) else Qt none H'
    exact iteT (hs i y H' hi hy s (fun y H4 => Qt (some y) H4) qt)
  · intro H' s hD
    rw [fm_some] at hD
    exact hd H' s hD
/-- an item of a list of whole numbers -/
theorem int_at {ns : List Int} {i : Nat} {x : V} (h : (ns.map V.int)[i]? = some x) : ∃ n, ns[i]? = some n ∧ x = .int n := by
  rw [List.getElem?_map] at h
  obtain ⟨n, hn, e⟩ := Option.map_eq_some_iff.mp h
  exact ⟨n, hn, e.symm⟩
/-! ### rules with the written part named (within a comprehension Lean doesn't find it) -/
section
variable {X : Cx}
theorem k_len (K : PySem.W.Frag) (h : X.K = K) : CallR X (.builtin "len") (fun xs H Q => ∃ p ys, xs = [.ref p] ∧ (SqL K H p ys ∨ SqT K H p ys) ∧ Q (.int ys.length) H) := by subst h; exact call_len_seq
theorem k_sum (K : PySem.W.Frag) (h : X.K = K) (hc : X.calm = true) : CallR X (.builtin "sum") (rSum K) := by subst h; exact cr_sum hc
theorem k_max (K : PySem.W.Frag) (h : X.K = K) (hc : X.calm = true) : CallR X (.builtin "max") (rMax K) := by subst h; exact cr_max hc
theorem k_min (K : PySem.W.Frag) (h : X.K = K) (hc : X.calm = true) : CallR X (.builtin "min") (rMin K) := by subst h; exact cr_min hc
theorem k_isi (K : PySem.W.Frag) (h : X.K = K) : CallR X (.builtin "isinstance") (rIsi K) := by subst h; exact call_isi
theorem k_listOf (K : PySem.W.Frag) (h : X.K = K) : CallR X (.type "list") (fun xs H Q => ∃ p ys, xs = [.ref p] ∧ (SqL K H p ys ∨ SqT K H p ys) ∧ ∀ l, H l = none → Q (.ref l) (upd H l (.lst ys))) := by subst h; exact call_list_of
theorem k_tupleOf (K : PySem.W.Frag) (h : X.K = K) : CallR X (.type "tuple") (fun xs H Q => ∃ p ys, xs = [.ref p] ∧ ((SqL K H p ys ∧ ∀ l, H l = none → Q (.ref l) (upd H l (.tup ys))) ∨ (SqT K H p ys ∧ Q (.ref p) H))) := by subst h; exact call_tuple_of
theorem k_ixL (K : PySem.W.Frag) (h : X.K = K) : IxR X (rIxL K) := by subst h; exact ix_list
theorem k_ixT (K : PySem.W.Frag) (h : X.K = K) : IxR X (rIxT K) := by subst h; exact ix_tup
theorem k_slL (K : PySem.W.Frag) (h : X.K = K) : SlR X (rSlL K) := by subst h; exact sl_list
theorem k_slT (K : PySem.W.Frag) (h : X.K = K) : SlR X (rSlT K) := by subst h; exact sl_tup
theorem k_eqD (K : PySem.W.Frag) (h : X.K = K) (hu : X.A.units + 64 < cLine) : OpR X (compareOp .Eq) (rEqD K) := by subst h; exact op_eqD hu
theorem k_neD (K : PySem.W.Frag) (h : X.K = K) (hu : X.A.units + 64 < cLine) : OpR X (compareOp .NotEq) (rNeD K) := by subst h; exact op_neD hu
theorem k_in (K : PySem.W.Frag) (h : X.K = K) : OpR X (compareOp .In) (rIn K false) := by subst h; exact op_in_seq
theorem k_notIn (K : PySem.W.Frag) (h : X.K = K) : OpR X (compareOp .NotIn) (rIn K true) := by subst h; exact op_notIn_seq
theorem k_piL (K : PySem.W.Frag) (h : X.K = K) {tg l : Expr} {tl : TE} (hl : PE X l tl) : PI X tg l (iList K tl) := by subst h; exact pi_list hl
theorem k_piT (K : PySem.W.Frag) (h : X.K = K) {tg l : Expr} {tl : TE} (hl : PE X l tl) : PI X tg l (iTup K tl) := by subst h; exact pi_tup hl
theorem k_piE (K : PySem.W.Frag) (h : X.K = K) {e : Expr} {ta : TA} {p pos tpos : Pos} {elts : List Expr} {kk : Nat} (hg : Gl X "enumerate") (hm : X.mg "enumerate" = none) (ha : PA X [e] ta) (hs : starEach [e] X.env = [(false, eval e X.env)] := by rfl) : PI X (.Tuple elts kk tpos) (.Call (.Name "enumerate" p) [e] [] pos) (iEnum K ta) := by subst h; exact pi_enum hg hm ha hs
theorem k_pgT (K : PySem.W.Frag) (h : X.K = K) {es : List Expr} {k : Nat} {t : TGs} {n : Nat} {pos : Pos} (hc : X.calm = true) (hp : PGs X es t) (hn : (assignEach es X.env).length = n := by rfl) (hst : (assignEach es X.env).findIdx? (·.1) = none := by rfl) : PG X (.Tuple es k pos) (gTup K n t) := by subst h; exact pg_tup hc hp hn hst
theorem k_pgL (K : PySem.W.Frag) (h : X.K = K) {es : List Expr} {k : Nat} {t : TGs} {n : Nat} {pos : Pos} (hc : X.calm = true) (hp : PGs X es t) (hn : (assignEach es X.env).length = n := by rfl) (hst : (assignEach es X.env).findIdx? (·.1) = none := by rfl) : PG X (.Tuple es k pos) (gUnl K n t) := by subst h; exact pg_unl hc hp hn hst
theorem k_fld (K : PySem.W.Frag) (h : X.K = K) {e : Expr} {f : Str} {pos : Pos} {ta : TE} (he : PE X e ta) (hb : attributeBase e f X.env (eval e X.env) = eval e X.env) : PE X (.Attribute e f pos) (tFld K ta f) := by subst h; exact pe_fld he hb
theorem k_index (K : PySem.W.Frag) (h : X.K = K) : MtR X "list.index" (rIndex K) := by subst h; exact mt_index
end
/-! ### small things -/
theorem fresh {H : Hp} {p : Addr} (o : HO) (np : H p = none) : ∃ H', upd H p o = H' ∧ Same H H' ∧ H' p = some o := ⟨_, rfl, same_upd np, upd_same⟩
theorem cut_take (xs : List V) (k : Nat) : cutV xs none (some (k : Int)) = xs.take k := by
  unfold cutV
  rw [HT.sIx_nat, HT.sIx_none, List.drop_zero, Nat.sub_zero]
  rcases Nat.le_total k xs.length with h | h
  · rw [Nat.min_eq_left h]
  · rw [Nat.min_eq_right h, List.take_of_length_le h, List.take_length]
theorem cut_drop (xs : List V) (k : Nat) : cutV xs (some (k : Int)) none = xs.drop k := by
  unfold cutV
  rw [HT.sIx_nat, HT.sIx_none]
  rcases Nat.le_total k xs.length with h | h
  · rw [Nat.min_eq_left h, List.take_of_length_le (by rw [List.length_drop]; exact Nat.le_refl _)]
  · rw [Nat.min_eq_right h, List.drop_length, List.drop_of_length_le h, List.take_nil]
theorem rep_ints (k : Nat) (ks : List Int) : (List.replicate k (ks.map V.int)).flatten = ((List.replicate k ks).flatten).map V.int := by
  rw [List.map_flatten, List.map_replicate]
theorem rep_len {α : Type} (k : Nat) (ks : List α) : ((List.replicate k ks).flatten).length = k * ks.length := by
  induction k with
  | zero => simp
  | succ k ih => rw [List.replicate_succ, List.flatten_cons, List.length_append, ih, Nat.succ_mul]; omega
theorem rep_mem {α : Type} {k : Nat} {ks : List α} {x : α} (h : x ∈ (List.replicate k ks).flatten) : x ∈ ks := by
  obtain ⟨l, hl, hx⟩ := List.mem_flatten.mp h
  rw [(List.mem_replicate.mp hl).2] at hx
  exact hx
/-! ### comprehensions that make new things: R tells what is known of the i-th; D is no part of it -/
def Off (D : Addr) (H H' : Hp) : Prop := ∀ b o, b ≠ D → H b = some o → H' b = some o
def RelPv (R : Nat → V → Hp → Prop) (H1 : Hp) (D : Addr) (i : Nat) (H : Hp) : Prop := ∃ ys : List V, Same H1 H ∧ H D = some (.lst ys) ∧ ys.length = i ∧ ∀ (k : Nat) (y : V), ys[k]? = some y → R k y H
theorem lc_relR {lo : Int} {n : Nat} {j : Nat} {te : TE} {vs : List Nat} {σ : L2.St} {H1 : Hp} {D : Addr} {Qd : Hp → Prop} (R : Nat → V → Hp → Prop) (nD : H1 D = none) (hz : n < sizeLine)
    (mono : ∀ i y H H', Off D H H' → R i y H → R i y H')
    (hw : ∀ x, wipe ((wipe σ vs).set j (some x)) vs = wipe σ vs)
    (hs : ∀ (i : Nat) (H' : Hp) (xs : List V), i < n → Same H1 H' → H' D = some (.lst xs) → ∀ Qt : V → Hp → Prop, (∀ y H'', Same H' H'' → R i y H'' → Qt y H'') → te ((wipe σ vs).set j (some (.int (lo + (i : Int))))) H' Qt)
    (hd : ∀ H' ys, Same H1 H' → H' D = some (.lst ys) → ys.length = n → (∀ (i : Nat) (y : V), ys[i]? = some y → R i y H') → Qd H') :
    ∃ W : Nat → Nat → Hp → Prop, (∃ m, W 0 m (upd H1 D (.lst []))) ∧ ∀ i m H, W i m H →
      ((Itr lo n).stop i H ∧ Qd H) ∨ ((Itr lo n).go i H ∧ ∃ Nx : Hp → Prop, (∀ H', Nx H' → ∃ m', m' < m ∧ W (i + 1) m' H') ∧ ∀ x H', (Itr lo n).yld i H x H' → gName j x (wipe σ vs) H' fun σ2 H2 => wipe σ2 vs = wipe σ vs ∧ tYes σ2 H2 fun b H3 =>
        if b = true then te σ2 H3 fun y H4 => ∃ acc, H4 D = some (.lst acc) ∧ acc.length < sizeLine ∧ Nx (upd H4 D (.lst (acc ++ [y]))) else Nx H3) := by
  refine lc_range (lo := lo) (n := n) (RelPv R H1 D) ⟨[], same_upd nD, upd_same, rfl, fun k y h => by simp at h⟩ ?_ ?_
  · rintro i H hi ⟨ys, s, hD, hl, hR⟩
    refine ⟨hw _, ?_⟩
    show if true = true then te ((wipe σ vs).set j (some (.int (lo + (i : Int))))) H (fun y H4 => ∃ acc, H4 D = some (.lst acc) ∧ acc.length < sizeLine ∧ RelPv R H1 D (i + 1) (upd H4 D (.lst (acc ++ [y])))) else RelPv R H1 D (i + 1) H
    refine iteT (hs i H ys hi s hD _ fun y H4 s4 r4 => ?_)
    refine ⟨ys, s4 _ _ hD, by omega, ys ++ [y], same_over nD (s.trans s4), upd_same, by rw [List.length_append, hl]; rfl, fun k z hz => ?_⟩
    have off : Off D H4 (upd H4 D (.lst (ys ++ [y]))) := fun b o nb h => by rw [upd_ne nb]; exact h
    by_cases hk : k < ys.length
    · rw [List.getElem?_append_left hk] at hz
      exact mono k z H _ (fun b o nb h => off b o nb (s4 b o h)) (hR k z hz)
    · rw [List.getElem?_append_right (by omega)] at hz
      have hk2 : k - ys.length = 0 := by
        have h2 := (List.getElem?_eq_some_iff.mp hz).1
        rw [List.length_singleton] at h2
        omega
      rw [hk2] at hz
      cases hz
      have ek : k = i := by omega
      rw [ek]
      exact mono i y H4 _ off r4
  · rintro H ⟨ys, s, hD, hl, hR⟩
    exact hd H ys s hD hl hR
/-! ### ways that are told by whole numbers -/
theorem iteDT {p A B : Prop} [Decidable p] (hp : p) (h : A) : if decide p = true then A else B := by rw [decide_eq_true hp]; exact iteT h
theorem iteDF {p A B : Prop} [Decidable p] (hp : ¬ p) (h : B) : if decide p = true then A else B := by rw [decide_eq_false hp]; exact iteF h
theorem iteNT {p A B : Prop} [Decidable p] (hp : ¬ p) (h : A) : if (!decide p) = true then A else B := by rw [decide_eq_false hp]; exact iteT h
theorem iteNF {p A B : Prop} [Decidable p] (hp : p) (h : B) : if (!decide p) = true then A else B := by rw [decide_eq_true hp]; exact iteF h
theorem iteET {a b : Int} {A B : Prop} [Decidable (V.int a = V.int b)] (hp : a = b) (h : A) : if decide (V.int a = V.int b) = true then A else B := iteDT (congrArg V.int hp) h
theorem iteEF {a b : Int} {A B : Prop} [Decidable (V.int a = V.int b)] (hp : ¬ a = b) (h : B) : if decide (V.int a = V.int b) = true then A else B := iteDF (fun z => hp (V.int.inj z)) h
theorem iteENT {a b : Int} {A B : Prop} [Decidable (V.int a = V.int b)] (hp : ¬ a = b) (h : A) : if (!decide (V.int a = V.int b)) = true then A else B := iteNT (fun z => hp (V.int.inj z)) h
theorem iteENF {a b : Int} {A B : Prop} [Decidable (V.int a = V.int b)] (hp : a = b) (h : B) : if (!decide (V.int a = V.int b)) = true then A else B := iteNF (congrArg V.int hp) h
theorem iteNtt {A B : Prop} (h : B) : if (!true) = true then A else B := h
theorem iteNff {A B : Prop} (h : A) : if (!false) = true then A else B := h
/-- 1 or 0 of a comparison -/
theorem int_if {p : Prop} [Decidable p] : (if decide p = true then (1 : Int) else 0) = if p then 1 else 0 := by by_cases h : p <;> simp [h]
end Pre

namespace My
open PySem PySem.Spec PyProof.Rows L2
/-! ### own errors whose __init__ says super().__init__(value); self.value = value -/
namespace Sup
open PySem.W PySem.Calls
section
variable {prog : Program} {w : World} {A : Around} {E : Value → Shared → Prop} {h : Heap} {g : Array GenState} {d : Drawn} {t : Nat} {os : OsState}
variable {nm q : Str} {C N : Addr} {bs bm : List Value} {hdct : Bool} {sn : List Str} {sub : List Value} {ab : Bool} {col : Option Bool} {dd : Option Addr} {k0 k1 k2 k3 k5 : Option Value}
theorem call_bwV {u e t0 : Addr} {rest : List Value} {Q : Value → Shared → Prop}
    (hC : h.get? C = some (excClassObj nm q C N bs bm hdct sn sub ab col dd k0 k1 k2 k3 k5 "ValueError.__new__")) (he : h.get? e = some (HandSPX.excO C t0)) (hu : h.get? u = some (kxs_mw "ValueError.__init__" e)) (hrest : rest.length ≤ sizeLine)
    (hq : ∀ h' t1, (∀ b o, b ≠ e → h.get? b = some o → h'.get? b = some o) → h'.get? e = some (HandSPX.excO C t1) → Q .none ⟨h', g, d, t, os⟩) :
    wpAny (model prog w) A (call (.ref u) rest) Q E ⟨h, g, d, t, os⟩ := by
  refine wpAny_call (codeAny_of_tree ?_)
  show wpAny _ A.in1 (callAny (.ref u) ⟨rest, []⟩) _ _ _
  simp only [callAny]
  refine wpAny_bind (wpAny_load hu ?_)
  simp only [kxs_mw, show (Value.type "method-wrapper" == Value.type "method" || Value.type "method-wrapper" == Value.type "builtin_function_or_method" || Value.type "method-wrapper" == Value.type "method-wrapper") = true by decide, if_true]
  refine W.KFB.if_so (by decide) ?_
  refine wpAny_bind (ESX.check_bound F.excBase_ValueError hC he rfl ?_)
  refine wpAny_bind (wpAny_pure (wpAny_pure ?_))
  refine ⟨Code.quiet_builtin _ (by decide +kernel), codeAny_builtin F.excBase_ValueError.initEntry ?_⟩
  rw [Around.under_plainId F.excBase_ValueError.init.plain _]
  exact exc_init_tree (cls := .ref C) (t0 := t0) (dv := none) (c2 := .none) (c3 := .none) (b4 := .bool false) he hrest fun h' k e' _ => hq h' _ k e'
end
/-- the file of the program: what its code objects are asked for -/
class PF (P : Program) (file : Str) : Prop where
  file : ((P.main.file : Str) == file) = true
  top : (P.main.scope.names.lookup ("super" : Str)).isSome = false
/-- what the written part says of such a class C, named x, and its __init__ at fI -/
structure SupC (K : Frag) (file x : Str) (st : Stmt) (C fI : Addr) (fd : FuncData) : Prop where
  T : OexC K C
  ex : ∃ (oc : Value) (od : Option Addr) (dV kV doc pm : Value) (an : Option Addr) (c cc : Addr) (ct : Value) (osl : Array (Option Value)),
    fd = ksFn "__init__" (x ++ (".__init__" : Str)) (defArgs st) (defBody st) (defScope st) dV kV doc pm an (.ref c) ct cc ∧ K.lookup fI = some ⟨oc, od, .func fd, osl⟩ ∧ codeIn K (.ref c) (x ++ (".__init__" : Str)) = true ∧
    (∃ (ccl : Value) (cdd : Option Addr) (vs : Array Value) (ccs : Array (Option Value)) (tf : Tok), K.lookup c = some ⟨ccl, cdd, .fields vs, ccs⟩ ∧ vs[2]? = some (.str file tf)) ∧ (∃ (cl : Value) (cld : Option Addr) (csl : Array (Option Value)), K.lookup cc = some ⟨cl, cld, .cell (some (.ref C)), csl⟩)
  sup : ks_superIn K C C "__init__" = some (some (.builtin "ValueError.__init__"))
  subV : subIn K (.ref C) (.type "ValueError") = some true
  subC : mroIn K C (.ref C) = some true
  opq : nsIn K cStatics "thirdparty.any" = some none
  nov : findIn K (.ref C) "value" = some none
/-- the body's shape -/
def SupBody (st : Stmt) : Prop := ∃ p0 p1 p2 p3 p4 p5 p6 p7 p8 p9 : Pos,
  defBody st = [.Expr (.Call (.Attribute (.Call (.Name "super" p0) [] [] p1) "__init__" p2) [.Name "value" p3] [] p4) p5, .Assign [.Attribute (.Name "self" p6) "value" p7] (.Name "value" p8) p9] ∧
  ((defArgs st).posonlyargs ++ (defArgs st).args).head?.map (·.arg) = some ("self" : Str) ∧
  ∀ env : Env, ∃ pl : Sem Bool, eval (.Call (.Attribute (.Call (.Name "super" p0) [] [] p1) "__init__" p2) [.Name "value" p3] [] p4) env = (do
      let ov ← attributeBase (.Call (.Name "super" p0) [] [] p1) "__init__" env (eval (.Call (.Name "super" p0) [] [] p1) env)
      standAt p2.atName
      let (f, first) ← holding [ov] (getMethod ov "__init__" pl)
      callWith p4 f first (backTo p4 (starEach [.Name "value" p3] env)) [])
def sp_exc_init (C : Addr) : Sp := fun vs H Q _ => ∃ (a : Addr) (v : V), vs = [.ref a, v] ∧ H a = some (exo a C none) ∧ ∀ d, H d = none → d ≠ a → Q .non (upd (upd H d (exd d [("value", v)])) a (exo a C (some d)))
section
variable {P : Program} {w : World} {K : Frag} {mg : Str → Option Value} {base : Heap} {CX : CXT} {file x : Str} {st : Stmt} {C fI : Addr} {fd : FuncData}
theorem fn_sup [pf : PF P file] (S : NdefX.NScope ["self", "value", "__class__"] ["self", "value"] ["__class__"] (defScope st)) (hgs : (defScope st).names.lookup ("super" : Str) = some .globalImplicit) (hb0 : SupBody st) (F : SupC K file x st C fI fd) (nosup : mg ("super" : Str) = none) :
    FnOk P w K mg base CX 1 fI fd ["self", "value"] (sp_exc_init C) := by
  refine ⟨fun vs H Q E h => by obtain ⟨a, v, rfl, _⟩ := h; rfl, fun A outer s H args us vs Q E hr e0 hb rv hsp => ?_⟩
  obtain ⟨a, v, rfl, ha, q⟩ := hsp
  obtain ⟨oc, od, dV, kV, doc, pm, an, c, cc, ct, osl, rfl, lk, hcd, ⟨ccl, cdd, cvs, ccs, tf, lkc, hvs⟩, cl, cld, csl, lkcc⟩ := F.ex
  obtain ⟨p0, p1, p2, p3, p4, p5, p6, p7, p8, p9, hbody, hself, hev⟩ := hb0
  obtain ⟨pl, hpl⟩ := hev (NdefX.envF ⟨"__init__", x ++ (".__init__" : Str), defArgs st, defBody st, defScope st, [("__class__", cc)], c⟩ fI s.heap.objs.size)
  have hin : K.In s.heap := e0.mod.kin.keeps fun b o z => (e0.bs b o z).1
  have lim : s.heap.NoLimit := e0.mod.nolimit.keeps fun b o e => (e0.bs b o e).1
  let Fn : NdefX.NF := ⟨"__init__", x ++ (".__init__" : Str), defArgs st, defBody st, defScope st, [("__class__", cc)], c⟩
  refine codeAny_call_function hr.depth (hin _ _ lk) rfl S.co S.gen rfl (codeRec_of hin hcd) (hb _ _ _ _ ?_)
  refine wpAny_newFunctionEnv S.nocell (fun ⟨n, _⟩ hy => S.par n (List.of_mem_zip hy).1) (fun h₁ hns hsb => ⟨lim.fresh _ hsb, ?_⟩) S.kind
  show codeAny _ _ (.func (defBody st) (NdefX.envF Fn fI s.heap.objs.size)) _ _
  have kp : ∀ b o, s.heap.get? b = some o → h₁.get? b = some o := fun b o e => hsb.extBut b o (Nat.ne_of_lt (Heap.lt_size e)) (Heap.get?_push_of_some _ e)
  have hcc : ∀ y c', ([("__class__", cc)] : List (Str × Addr)).lookup y = some c' → y = ("__class__" : Str) ∧ c' = cc := fun y c' e => by
    by_cases h : y = ("__class__" : Str)
    · subst h
      cases e
      exact ⟨rfl, rfl⟩
    · rw [List.lookup_cons, show (y == ("__class__" : Str)) = false by simpa using h] at e
      cases e
  have cells : NdefX.CellsAt Fn.cl ["__class__"] [some (.ref C)] s.heap H := {
    len := rfl
    all := fun y c' e => by
      obtain ⟨_, rfl⟩ := hcc y c' e
      exact ⟨(e0.bs _ _ (e0.mod.kin _ _ lkcc)).2, _, _, hin _ _ lkcc, rfl⟩
    inj := fun y z c' e1 e2 => by rw [(hcc y c' e1).1, (hcc z c' e2).1]
    has := fun i y e => by
      cases i with
      | zero =>
        cases e
        refine ⟨cc, rfl, fun u hu => ?_⟩
        cases hu
        exact ⟨.ref C, rfl, _, hin _ _ lkcc, rfl⟩
      | succ i => simp at e }
  have I : Inv (NdefX.ncx CX P w K mg base ["self", "value", "__class__"] Fn fI A outer s H E) [] (NdefX.startF ["self", "value", "__class__"] [.ref a, v] [some (.ref C)]) H { s with heap := h₁, toks := s.toks + (["self", "value"].zip us).length } := NdefX.inv_startN S hr.hd e0 rfl rv cells hns kp
  obtain ⟨nm, q0, N, bs, bm, sn, sub, ab, col, dd, k0, k1, k2, k3, k5, hC, hbm⟩ := F.T.cls
  have hcl : clsIn K C = some { name := nm, bases := bs, mro := .ref C :: bm, ns := N, qualname := q0, hasDict := true, slotNames := sn, subclasses := sub, abstract := ab, collection := col, hasDel := false } := by unfold clsIn; rw [hC] <;> rfl
  refine ks_codeAny_funcAt ?_
  rw [hbody]
  obtain ⟨ar, hp, har⟩ : ∃ ar, ((defArgs st).posonlyargs ++ (defArgs st).args).head? = some ar ∧ ar.arg = ("self" : Str) := by
    cases e : ((defArgs st).posonlyargs ++ (defArgs st).args).head? with
    | none => rw [e] at hself; cases hself
    | some ar => rw [e] at hself; exact ⟨ar, rfl, Option.some.inj hself⟩
  have X1 : K.In h₁ := hin.keeps kp
  obtain ⟨ual, rfl⟩ : ∃ u1, us = [.ref a, u1] := by
    cases rv with
    | cons r1 r2 => cases r2 with
      | cons r3 r4 => cases r4; cases r1; exact ⟨_, rfl⟩
  refine ks_wpAt_execs_cons (ks_wpAt_Expr_any (ks_wpAt_MethodCall (pl := pl) ?_ hpl) I.quiet)
  refine ks_wpAt_super_base (env := NdefX.envF Fn fI s.heap.objs.size) hgs (S.frk _ (by simp)) (by decide) rfl (X1 _ _ lk) rfl hp rfl (X1 _ _ lkc) rfl hvs pf.file pf.top ?_
  obtain ⟨mb, hb1, hb2⟩ := I.mod.blt
  refine ks_loadName_global S.kind hgs (loadGlobal_builtin (env := NdefX.envF Fn fI s.heap.objs.size) (I.mod.glob.keeps I.bk) nosup (hb1.keeps I.bk) ((hb2 _ (by decide)).trans (show bootBuiltins "super" = some (.type "super") by decide +kernel)) ⟨rfl, ?_⟩)
  refine wpAny_loadName_free S.kind (S.frk _ (by simp)) rfl ⟨_, X1 _ _ lkcc, rfl⟩ ?_
  rw [har]
  refine wpAny_loadName_local S.kind (S.par _ (by simp)) hns rfl ?_
  obtain ⟨t1, he0⟩ := exo_at e0.hok ha
  have he1 := kp _ _ he0
  refine ks_wpAny_isType_cls (X1 _ _ hC) rfl ⟨rfl, ?_⟩
  refine ks_wpAny_call_super (X1 _ _ hC) rfl he1 rfl (fun c e => by cases e) (looks_mroIn X1 F.subC) (fun h2 hso k2 => ?_)
  have X2 : K.In h2 := X1.keeps k2
  have he2 := k2 _ _ he1
  have IA : InstAt h2 a (HandSPX.excO C t1) C none := ⟨he2, rfl, rfl, trivial⟩
  have hf := F.sup
  unfold ks_superIn at hf
  rw [hcl] at hf
  refine kxs_getMethod kxs_ValueError hso (looks_opaque X2 F.opq) (l₀ := .ref C :: bm) (fun A Q E s k q => wpAny_bind ((looks_clsIn X2 hcl) A _ E s k (wpAny_pure q))) rfl X2 hf (IA.type.andThen (looks_subIn X2 F.subV)) (ks_ne X2 IA hcl) (by decide) ?_
  have k3 : ∀ b o, h₁.get? b = some o → (h2.push (kxs_mw "ValueError.__init__" a)).get? b = some o := fun b o e => Heap.get?_push_of_some _ (k2 b o e)
  have I3 := I.kept (h' := h2.push (kxs_mw "ValueError.__init__" a)) (t' := s.toks + (["self", "value"].zip [Value.ref a, ual]).length + 1) k3
  refine kxs_callWith (i := "ValueError.__init__") (x := a) rfl ?_
  rw [show starEach [Expr.Name "value" p3] (NdefX.envF Fn fI s.heap.objs.size) = (false, eval (.Name "value" p3) (NdefX.envF Fn fI s.heap.objs.size)) :: starEach [] (NdefX.envF Fn fI s.heap.objs.size) from rfl]
  refine evalArgs_plain ?_
  refine spliced_cons ?_
  obtain ⟨m, hn, hl⟩ := I3.loc
  obtain ⟨u, ru, l⟩ := hl 1 "value" v rfl rfl (.inl (S.par _ (by simp)))
  have fin : wpAny (model P w) (A.deeper (NdefX.envF Fn fI s.heap.objs.size)) (eval (.Name "value" p3) (NdefX.envF Fn fI s.heap.objs.size)) (fun z s' => z = u ∧ s' = { s with heap := h2.push (kxs_mw "ValueError.__init__" a), toks := s.toks + (["self", "value"].zip [Value.ref a, ual]).length + 1 }) (fun e s' =>
      wpAny (model P w) (A.deeper (NdefX.envF Fn fI s.heap.objs.size)) (leaving (NdefX.envF Fn fI s.heap.objs.size) e)
        (fun x s'' => CR CX outer P w H s Q E (Except.error e) s'')
        (fun e' s'' => CR CX outer P w H s Q E (Except.error e') s'') s') { s with heap := h2.push (kxs_mw "ValueError.__init__" a), toks := s.toks + (["self", "value"].zip [Value.ref a, ual]).length + 1 } := by
    rcases l with ⟨hk, hm⟩ | ⟨hk, _⟩
    · exact wpAny_Name (wpAny_loadName_local S.kind hk hn hm ⟨rfl, rfl⟩) (by decide)
    · have hv : (defScope st).names.lookup ("value" : Str) = some .local := S.par _ (by simp)
      rcases hk with hk | hk <;> exact absurd (hv.symm.trans hk) (by intro z; cases z)
  refine wpAny_mono fin (fun z s' hz => ?_) fun _ _ z => z
  obtain ⟨rfl, rfl⟩ := hz
  refine spliced_nil ⟨Heap.get?_push_at rfl rfl, ?_⟩
  refine call_bwV (e := a) (t0 := t1) (X2.keeps (fun b o e => Heap.get?_push_of_some _ e) _ _ hC) (Heap.get?_push_of_some _ he2) (Heap.get?_push_at rfl rfl) (by show 1 ≤ sizeLine; decide) fun h' t2 k4 hx => ?_
  refine wpAt_of_wpAny ?_
  have J := I3.write (t' := s.toks + (["self", "value"].zip [Value.ref a, ual]).length + 1) (x := a) (e := a) (o := exo a C none) (by rw [ha]; exact True.intro) (.inl rfl) k4 ⟨_, hx⟩ (exo_ok hx)
  have eu : upd H a (exo a C none) = H := by
    funext b
    by_cases hb : b = a
    · rw [hb, upd_same, ha]
    · rw [upd_ne hb]
  rw [eu] at J
  have ht : PSs (NdefX.ncx CX P w K mg base ["self", "value", "__class__"] Fn fI A outer s H E) [.Assign [.Attribute (.Name "self" p6) "value" p7] (.Name "value" p8) p9] (tOst K "value" (tVar 0) (tVar 1)) :=
    pss_one (ps_ost (pe_var (i := 0) rfl (.inl (S.par _ (by simp)))) (pe_var (i := 1) rfl (.inl (S.par _ (by simp)))))
  refine wpAny_mono (ht.run [] _ _ H { nx := fun _ H' => Q .non H', rt := Q } J ⟨v, rfl, .ref a, rfl, a, C, rfl, F.T, F.nov, .inl ⟨ha, fun dx n ne => q dx n ne⟩⟩) (fun fl s' hs => ?_) fun e s' hs => hs
  have fin : ∀ {σ' : L2.St} {H' : Hp} {v : V} {u : Value}, Inv (NdefX.ncx CX P w K mg base ["self", "value", "__class__"] Fn fI A outer s H E) [] σ' H' s' → L2.RelV v u → Q v H' → CE outer P w H s Q u s' :=
    fun {σ' H' v u} J rv q => ⟨v, H', J.os, J.bare, J.base, J.hok, rv, q⟩
  cases fl with
  | ret u =>
    obtain ⟨v, σ', H', J, rv, q⟩ := hs
    exact fin J rv q
  | next =>
    obtain ⟨σ', H', J, q⟩ := hs
    exact fin (v := V.non) (u := Value.none) J rfl q
  | brk =>
    obtain ⟨_, _, _, q⟩ := hs
    exact False.elim q
  | cont =>
    obtain ⟨_, _, _, q⟩ := hs
    exact False.elim q
end
end Sup
end My

namespace My
open PySem PySem.Spec PyProof.Rows L2
/-! ### such an error raised; its value in an except suite; several clauses with a name -/
/-- what is left to be shown behind the making of such an error with the value v -/
theorem mk_sup {C : Addr} {v : V} {H1 : Hp} {Q : XK} (q : ∀ d, H1 d = none → Q (.ref C) (some d) (upd H1 d (.xd [("value", v)]))) : [v].length ≤ 1000 ∧ ∀ a, H1 a = none → Sup.sp_exc_init C (.ref a :: ([v] ++ [])) (upd H1 a (exo a C none))
    (fun w H2 => w = .non ∧ ∃ (d : Addr) (fs : List (Str × V)), H2 a = some (exo a C (some d)) ∧ H2 d = some (exd d fs) ∧ H1 d = none ∧ Q (.ref C) (some d) (upd (del H2 a) d (.xd fs))) (fun _ _ _ => False) := by
  refine ⟨by show 1 ≤ 1000; decide, fun a na => ⟨a, v, rfl, upd_same, fun d nd da => ⟨rfl, d, [("value", v)], upd_same, ?_, ?_, ?_⟩⟩⟩
  · rw [upd_ne da, upd_same]
  · rw [upd_ne da] at nd
    exact nd
  · have hn : H1 d = none := by rw [upd_ne da] at nd; exact nd
    have e : upd (del (upd (upd (upd H1 a (exo a C none)) d (exd d [("value", v)])) a (exo a C (some d))) a) d (.xd [("value", v)]) = upd H1 d (.xd [("value", v)]) := by
      funext b
      by_cases hb : b = d
      · rw [hb, upd_same, upd_same]
      · rw [upd_ne hb, upd_ne hb]
        by_cases hba : b = a
        · rw [hba, del_same, na]
        · rw [del_ne hba, upd_ne hba, upd_ne hb, upd_ne hba]
    rw [e]
    exact q d hn
/-- the reading of err.f, the class of err told there -/
def tXfA (K : PySem.W.Frag) (a : Addr) (cls : Value) (d : Option Addr) (f : Str) (te : TE) : TE := fun σ H Q => te σ H fun x H1 => x = .ref a ∧ ∃ C : Addr, cls = .ref C ∧ XfC K C ∧ PySem.W.findIn K (.ref C) f = some none ∧ ∃ (dd : Addr) (fs : List (Str × V)) (v : V), d = some dd ∧ H1 dd = some (.xd fs) ∧ fs.lookup f = some v ∧ Q v H1
theorem pe_xfA {X : Cx} {a : Addr} {oe : Obj} {cls : Value} {d : Option Addr} {pn : List (Addr × Obj)} {e : Expr} {te : TE} {pos : Pos} {n : Str}
    (hz : Zc cls d oe) (hf : ∃ vs, oe.data = .fields vs) (he : PE (X.suite a ((a, oe) :: pn)) e te) (hb : attributeBase e n X.env (eval e X.env) = eval e X.env := by rfl) :
    PE (X.suite a ((a, oe) :: pn)) (.Attribute e n pos) (tXfA X.K a cls d n te) := by
  refine ⟨fun pins s σ H Q I h => ?_⟩
  refine attr_of hb (thn (he.run pins s σ H _ I h) fun u s1 hh => ?_)
  obtain ⟨x, H1, I1, rx, ex, C, ec, T, hno, dd, fs, v, ed, ea, l, q⟩ := hh
  subst ex
  obtain rfl : u = Value.ref a := rx
  subst ec
  subst ed
  obtain ⟨ha, _⟩ := I1.pin (a, oe) (List.mem_append_left _ List.mem_cons_self)
  obtain ⟨vs, hd⟩ := hf
  have hx : ObjOk X.prog X.w H1 s1.heap dd (.xd fs) := I1.hok dd _ ea
  obtain ⟨mA, hns, hr⟩ := hx
  obtain ⟨od, ho, hl⟩ := lookIn_ns hns
  obtain ⟨u, hu, ru⟩ := RelO.some_of (v := v) (o := mA n) (by rw [← l]; exact hr n)
  have J : PySem.W.InstAt s1.heap a oe C (some od) := ⟨ha, hz.1, by unfold PySem.W.notCls; rw [hd] <;> rfl, by rw [hz.2]; exact ho⟩
  exact HandSPX.exc_get I1.kIn J T.ga T.gg T.exC (PySem.W.findObj_own T.hdC hno rfl (by rw [hl, hu])) (handed_of ru) ⟨v, H1, I1.tok _, ru, q⟩
/-- what the clauses 'except x as n' wish of an exception of the body, one after the other; slot i is n's -/
def wManyAs (K : PySem.W.Frag) (i : Nat) (Wout : WX) (D : Ends) : List (Value × (Addr → Value → Option Addr → TS)) → WX
  | [] => Wout
  | (c, ts) :: r => fun cls d σ H => ∃ b, PySem.W.exmOne K cls c = some b ∧ (b = true → ∀ a, H a = none → ts a cls d { nx := fun σ' H' => D.nx (σ'.set i none) H', rt := D.rt, bk := fun σ' H' => D.bk (σ'.set i none) H', ct := fun σ' H' => D.ct (σ'.set i none) H' } (σ.set i (some (.ref a))) H) ∧
    (b = false → wManyAs K i Wout D r cls d σ H)
inductive HdsAs (X : Cx) (n : Str) : List ExceptHandler → List (Value × (Addr → Value → Option Addr → TS)) → Prop
  | nil : HdsAs X n [] []
  | cons {x : Str} {c : Value} {ts : Addr → Value → Option Addr → TS} {b₀ : Stmt} {suite : List Stmt} {np pos' : Pos} {hds : List ExceptHandler} {l : List (Value × (Addr → Value → Option Addr → TS))} (hc : Names X x c)
      (hsu : ∀ (a : Addr) (oe : Obj) (cls : Value) (d : Option Addr) (pn : List (Addr × Obj)), Zc cls d oe → (∃ vs, oe.data = .fields vs) → PSs (X.suite a ((a, oe) :: pn)) (b₀ :: suite) (ts a cls d)) (r : HdsAs X n hds l) :
      HdsAs X n (.ExceptHandler (some (.Name x np)) (some n) (b₀ :: suite) pos' :: hds) ((c, ts) :: l)
section
variable {X : Cx} {n : Str} {i : Nat} {body : List Stmt} {h₀ : ExceptHandler} {hds : List ExceptHandler} {l : List (Value × (Addr → Value → Option Addr → TS))} {pos : Pos} {tb : WX → TS} {Wout : WX}
theorem ps_try_manyAs (hs : X.stack = X.env :: X.outer) (hf : X.env.frame = some X.env.locals) (hN : X.N.Nodup) (hi : X.N[i]? = some n) (hln : X.env.kindOf n = some .local) (tk : Takes X Wout)
    (hb : ∀ (W : WX) (pn : List (Addr × Obj)) (xe : Value → Shared → Prop), Takes (X.tr pn xe) W → PassesOwn (model X.prog X.w) X.A X.env xe → PSs (X.tr pn xe) body (tb W))
    (hh : HdsAs X n (h₀ :: hds) l) : PS X (.Try body (h₀ :: hds) [] [] pos) (fun D σ H => tb (wManyAs X.K i Wout D l) D σ H) := by
  refine ⟨fun pins s σ H D I h => ?_⟩
  have ok := I.ok
  have hfr : X.A.frames = some (X.env :: X.outer) := by rw [ok.frames, hs]
  have hloc : Loc X.env.scope n := .inl hln
  refine wpAny_Try_except ?_
  refine wpAny_mono ((hb (wManyAs X.K i Wout D l) (X.pn ++ pins) (fun e s₁ => wpAny (model X.prog X.w) X.A (noteFrame e X.env) (fun _ s₂ => wpAny (model X.prog X.w) X.A (setFlight e none) (fun _ s₃ =>
    wpAny (model X.prog X.w) X.A (handleBy e X.env (h₀ :: hds)) (SP X pins D) X.xe s₃) X.xe s₂) X.xe s₁) (fun u s' xx => ?_) PassesOwn.looking).run [] s σ H D (I.toTry _) h) (fun f s1 hsp => ?_) (fun e s1 he => he)
  · -- the catch
    obtain ⟨a, B, sI, pins', σ', H', cls, d, rfl, J', nb, up, sky, na, os, ag, w⟩ := xx
    have J : Inv X pins σ' H' sI := J'.ofTry ok
    have sky' : Sky B (X.env :: X.outer) a (Zc cls d) X.env.locals s'.heap := by rw [← hs]; exact sky
    show wpAny (model X.prog X.w) X.A (noteFrame (.ref a) X.env) _ _ _
    refine Sky.land Zc.steady hfr hf sky' fun h3 fl3 up3 => ?_
    have J3 : Inv X pins σ' H' { s' with heap := h3 } := J.landed nb fl3.1 (up.trans up3) os ag
    obtain ⟨oe3, vs3, he3, hz3, hd3⟩ := fl3.there
    have notFr : ∀ {h : Heap} {o : Obj} {vs : Array Value}, h.FunFrames B (X.env :: X.outer) → h.get? a = some o → o.data = .fields vs → a ∉ frs (X.env :: X.outer) := fun {h o vs} ff e dd hm => by
      obtain ⟨_, o', e', hnf⟩ := ff.mem hm
      rw [e] at e'; cases e'
      exact hnf _ dd
    have nfr := notFr fl3.2.2.1 he3 hd3
    have nL : a ≠ X.env.locals := fun z => nfr (List.mem_filterMap.mpr ⟨X.env, List.mem_cons_self, by rw [hf, z]⟩)
    have nF : a ∉ X.fs := fun hm => by
      obtain ⟨e, he, q⟩ := List.mem_filterMap.mp hm
      exact nfr (List.mem_filterMap.mpr ⟨e, List.mem_cons_of_mem _ he, q⟩)
    have S3 := J3.suite he3 hd3 na nL nF
    have go : ∀ {hds' : List ExceptHandler} {l' : List (Value × (Addr → Value → Option Addr → TS))}, HdsAs X n hds' l' → wManyAs X.K i Wout D l' cls d σ' H' →
        wpAny (model X.prog X.w) X.A (handleBy (.ref a) X.env hds') (SP X pins D) X.xe { s' with heap := h3 } := by
      intro hds' l' hk
      induction hk with
      | nil =>
        intro w
        refine wpAny_handleBy_nil ?_
        obtain ⟨k1, k2, k3, oe, vs, T, oT, ts', he, hz, hd, h1, hr⟩ := id fl3
        unfold PySem.passOn
        refine wpAny_bind (wpAny_field he hd h1 ?_)
        rw [if_neg (show ¬ ((Value.ref T == Value.none) = true) from by simp)]
        have fin : wpAny (model X.prog X.w) X.A (setFlight (.ref a) X.env.frame) (fun _ s4 => wpAny (model X.prog X.w) X.A (throw (.ref a) : Sem Flow) (SP X pins D) X.xe s4) X.xe { s' with heap := h3 } := by
          rw [hf]
          refine HandSPX.setFlight_upZ fl3 fun h4 hh4 up4 => wpAny_throw (tk _ _ ?_)
          exact ⟨a, B, sI, pins, σ', H', cls, d, rfl, J, nb, (up.trans up3).trans up4, .inr (.inr (by rw [hs]; exact hh4)), na, os, ag, w⟩
        first
          | exact wpAny_bind (wpAny_pure (wpAny_bind fin))
          | exact wpAny_bind fin
      | @cons x c ts b₀ suite np pos' hds2 l2 hc hsu r ih =>
        intro w
        obtain ⟨b, hb1, hyes, hno⟩ := w
        refine wpAny_handleBy_cons (codeAny_handlers_test ?_) (by intro q; cases q)
        have LT : PySem.W.Looks (model X.prog X.w) h3 (typeOf (.ref a)) cls := fun A Q E s k q => wpAny_typeOf_ref (k _ _ he3) (by rw [hz3.1]; exact q)
        have LM := PySem.W.exm_one (M := model X.prog X.w) (J3.kIn) LT hb1
        have test : ∀ {Q : Value → Shared → Prop} {E : Value → Shared → Prop}, Q c { s' with heap := h3 } → wpAny (model X.prog X.w) (X.A.mark (some (.ref a))) (eval (.Name x np) X.env) Q E { s' with heap := h3 } := fun {Q E} q => by
          obtain ⟨hg, hdbg, hm | ⟨hm, hv, hnn⟩⟩ := hc
          · exact ld_glob (X := X.suite a ((a, oe3) :: (X.pn ++ pins))) S3 hg hm q hdbg
          · exact ld_blt (X := X.suite a ((a, oe3) :: (X.pn ++ pins))) S3 hg hm hv q hnn hdbg
        refine test (LM.here ?_)
        cases b with
        | true =>
          refine codeAny_handlers_suite_as ?_
          refine HandSPX.lands_againZ fl3 fun h4 fl4 up4 => ?_
          have J4 : Inv X pins σ' H' { s' with heap := h4 } := J.landed nb fl4.1 ((up.trans up3).trans up4) os ag
          obtain ⟨oe4, vs4, he4, hz4, hd4⟩ := fl4.there
          have S4 := J4.suite he4 hd4 na nL nF
          refine store_ok (X := X.suite a ((a, oe4) :: (X.pn ++ pins))) (v := .ref a) S4 hN hi hloc rfl (fun s5 S5 => ?_) (.inr hln)
          refine wpAny_mono ((hsu a oe4 cls d (X.pn ++ pins) hz4 ⟨_, hd4⟩).run [] s5 _ H' _ S5 (hyes rfl a na)) (fun f s6 hsp => ?_) (fun _ _ z => False.elim z)
          have end_ : ∀ {σ6 : L2.St} {H6 : Hp} {Q : Shared → Prop}, Inv (X.suite a ((a, oe4) :: (X.pn ++ pins))) [] σ6 H6 s6 → (∀ s7, Inv X pins (σ6.set i none) H6 s7 → Q s7) →
              wpAny (model X.prog X.w) X.A (do bindName X.env n .none; unbindBehindTheSuite X.env n pos') (fun _ s7 => Q s7) X.xe s6 := fun {σ6 H6 Q} S6 hq => gone_ok (S6.unsuite ok) hN hi hln hq
          cases f with
          | next =>
            obtain ⟨σ6, H6, S6, q6⟩ := hsp
            exact end_ S6 fun s7 J7 => ⟨_, _, J7, q6⟩
          | brk =>
            obtain ⟨σ6, H6, S6, q6⟩ := hsp
            exact end_ S6 fun s7 J7 => ⟨_, _, J7, q6⟩
          | cont =>
            obtain ⟨σ6, H6, S6, q6⟩ := hsp
            exact end_ S6 fun s7 J7 => ⟨_, _, J7, q6⟩
          | ret u =>
            obtain ⟨v6, σ6, H6, S6, r6, q6⟩ := hsp
            exact end_ S6 fun s7 J7 => ⟨_, _, _, J7, r6, q6⟩
        | false =>
          show wpAny _ X.A (handleBy (.ref a) X.env hds2) _ _ _
          exact ih (hno rfl)
    exact go hh w
  · cases f with
    | next =>
      obtain ⟨σ', H', J', q⟩ := hsp
      exact wpAny_execs_nil ⟨σ', H', J'.ofTry ok, q⟩
    | brk =>
      obtain ⟨σ', H', J', q⟩ := hsp
      exact ⟨σ', H', J'.ofTry ok, q⟩
    | cont =>
      obtain ⟨σ', H', J', q⟩ := hsp
      exact ⟨σ', H', J'.ofTry ok, q⟩
    | ret u =>
      obtain ⟨v, σ', H', J', r, q⟩ := hsp
      exact ⟨v, σ', H', J'.ofTry ok, r, q⟩
end
end My

namespace My
open PySem PySem.Spec PyProof.Rows L2
/-! ### own errors as they stand behind the top: what is asked of the written part -/
abbrev ErW : Type := Option (Str × Str × Arguments × FuncBody × Scope × Addr × Addr)
def erI (K : PySem.W.Frag) (x : Str) : Addr := match PySem.W.findIn K (.ref (He.ga K x)) "__init__" with
  | some (some (.ref a)) => a
  | _ => 0
def erW (K : PySem.W.Frag) (x : Str) : ErW := match K.lookup (erI K x) with
  | some ⟨_, _, .func fd, _⟩ => some (fd.name, fd.qualname, fd.params, fd.body, fd.scope, fd.globals, fd.builtins)
  | _ => none
/-- an own error class over ValueError -/
def oexB (K : PySem.W.Frag) (C : Addr) : Bool := match K.lookup C with
  | some ⟨.type "type", _, .cls cd, sl⟩ => (match cd.mro, sl.toList with
    | .ref C' :: bm, [_, _, _, _, some (.builtin n), _] => C' == C && (n == ("ValueError.__new__" : String) && (!cd.hasDel && (cd.hasDict && PySem.HandSPX.refsVE bm)))
    | _, _ => false)
  | _ => false
theorem oexB_ok {K : PySem.W.Frag} {C : Addr} (q : oexB K C = true) : ∃ nm qn N bs bm sn sub ab col dd k0 k1 k2 k3 k5, K.lookup C = some (excClassObj nm qn C N bs bm true sn sub ab col dd k0 k1 k2 k3 k5 "ValueError.__new__") ∧ PySem.HandSPX.refsVE bm = true := by
  unfold oexB at q
  split at q
  · rename_i dd cd sl ho
    split at q
    · rename_i C' bm k0 k1 k2 k3 n k5 hm hs
      simp only [Bool.and_eq_true, beq_iff_eq, Bool.not_eq_true'] at q
      obtain ⟨rfl, rfl, hdel, hdict, ht⟩ := q
      obtain ⟨nm, bs, mro, ns, qn, hd, sn, sub, ab, col, del⟩ := cd
      dsimp only at hm hdel hdict
      subst hm hdel hdict
      have hsl : sl = #[k0, k1, k2, k3, some (.builtin "ValueError.__new__"), k5] := by
        obtain ⟨l⟩ := sl
        simp only at hs
        rw [hs]
      subst hsl
      exact ⟨nm, qn, ns, bs, bm, sn, sub, ab, col, dd, k0, k1, k2, k3, k5, ho, ht⟩
    · cases q
  · cases q
/-- its __init__: one cell, of the class; code of the file; one default, None -/
def iniB (K : PySem.W.Frag) (file x : Str) : Bool := match K.lookup (erI K x) with
  | some ⟨_, _, .func fd, _⟩ => (match fd.closure with
    | [(n, cc)] => decide (n = ("__class__" : Str)) && ((match K.lookup cc with
      | some ⟨_, _, .cell (some (.ref C')), _⟩ => C' == He.ga K x
      | _ => false) && ((match fd.code with
        | .ref c => (match K.lookup c with
          | some ⟨_, _, .fields vs, _⟩ => (match (vs[2]? : Option Value) with
            | some (Value.str f _) => decide (f = file)
            | _ => false)
          | _ => false)
        | _ => false) && (PySem.W.codeIn K fd.code (x ++ (".__init__" : Str)) && (He.dflB K fd.defaults [.non] && He.kwdB K fd.kwdefaults []))))
    | _ => false)
  | _ => false
def errB (K : PySem.W.Frag) (file x : Str) : Bool :=
  oexB K (He.ga K x) && (iniB K file x && (xfB K (He.ga K x) && (decide (PySem.W.findIn K (.ref (He.ga K x)) "__setattr__" = some (some (.builtin "object.__setattr__"))) && (decide (PySem.W.subIn K (.ref (He.ga K x)) (.type "BaseException") = some true) && (decide (PySem.W.typeIn K (.ref (He.ga K x)) = some (.type "type")) && (PySem.W.keepIn K (.ref (He.ga K x)) &&
  (decide (PySem.W.ks_superIn K (He.ga K x) (He.ga K x) "__init__" = some (some (.builtin "ValueError.__init__"))) && (decide (PySem.W.subIn K (.ref (He.ga K x)) (.type "ValueError") = some true) && (decide (PySem.W.mroIn K (He.ga K x) (.ref (He.ga K x)) = some true) && (decide (PySem.W.nsIn K cStatics "thirdparty.any" = some none) && (decide (PySem.W.findIn K (.ref (He.ga K x)) "value" = some none) &&
  (decide (PySem.W.findIn K (.ref (He.ga K x)) "__init__" = some (some (.ref (erI K x)))) && decide (PySem.W.typeIn K (.ref (erI K x)) = some (.type "function"))))))))))))))
structure ErrC (K : PySem.W.Frag) (file x : Str) (st : Stmt) (C fI : Addr) (fd : FuncData) : Prop where
  sup : Sup.SupC K file x st C fI fd
  ini : PySem.W.findIn K (.ref C) "__init__" = some (some (.ref fI))
  ity : PySem.W.typeIn K (.ref fI) = some (.type "function")
  bnd : Binds K fd ["self", "value"] []
  xf : XfC K C
theorem err_ok {K : PySem.W.Frag} {file x : Str} {st : Stmt} (h : errB K file x = true) (e : erW K x = some (("__init__" : Str), x ++ (".__init__" : Str), defArgs st, FuncBody.stmts (defBody st), defScope st, mainGlobals, builtinsNs))
    (hb : ∀ (T cc : Addr) (kV doc pm : Value) (an : Option Addr) (cdv ct : Value) (us its : List Value), us.length = 2 → its.length = 1 →
      ∃ k, bindArgs (PySem.W.ksFn "__init__" (x ++ (".__init__" : Str)) (defArgs st) (defBody st) (defScope st) (.ref T) kV doc pm an cdv ct cc) ⟨us, []⟩ = seqItems? (.ref T) >>= k ∧ k (some its.toArray) = pure ((["self", "value"] : List Str).zip us)) :
    ∃ fd, ErrC K file x st (He.ga K x) (erI K x) fd := by
  unfold errB at h
  obtain ⟨h1, h⟩ := He.ba h
  obtain ⟨h2, h⟩ := He.ba h
  obtain ⟨h3, h⟩ := He.ba h
  obtain ⟨h4, h⟩ := He.ba h
  obtain ⟨h5, h⟩ := He.ba h
  obtain ⟨h6, h⟩ := He.ba h
  obtain ⟨h7, h⟩ := He.ba h
  obtain ⟨h8, h⟩ := He.ba h
  obtain ⟨h9, h⟩ := He.ba h
  obtain ⟨h10, h⟩ := He.ba h
  obtain ⟨h11, h⟩ := He.ba h
  obtain ⟨h12, h⟩ := He.ba h
  obtain ⟨h13, h14⟩ := He.ba h
  unfold iniB at h2
  unfold erW at e
  cases q : K.lookup (erI K x) with
  | none => rw [q] at e; cases e
  | some o =>
    obtain ⟨oc, od, dt, osl⟩ := o
    rw [q] at e h2
    cases dt with
    | func fd =>
      obtain ⟨n1, n2, n3, n4, n5, n6, n7, n8, n9, n10, n11, n12, n13, n14, n15⟩ := fd
      have e2 : (some (n1, n2, n3, n4, n5, n6, n15) : ErW) = some (("__init__" : Str), x ++ (".__init__" : Str), defArgs st, FuncBody.stmts (defBody st), defScope st, mainGlobals, builtinsNs) := e
      simp only [Option.some.injEq, Prod.mk.injEq] at e2
      obtain ⟨r1, r2, r3, r4, r5, r6, r7⟩ := e2
      subst r1 r2 r3 r4 r5 r6 r7
      dsimp only at h2
      split at h2
      · rename_i n cc
        obtain ⟨k1, h2⟩ := He.ba h2
        obtain ⟨k2, h2⟩ := He.ba h2
        obtain ⟨k3, h2⟩ := He.ba h2
        obtain ⟨k4, h2⟩ := He.ba h2
        obtain ⟨k5, k6⟩ := He.ba h2
        obtain rfl := of_decide_eq_true k1
        split at k2
        · rename_i cl cld C' csl lcc
          obtain rfl := beq_iff_eq.mp k2
          split at k3
          · rename_i c0
            split at k3
            · rename_i ccl cdd vs ccs lc
              split at k3
              · rename_i f tf hvs
                obtain rfl := of_decide_eq_true k3
                have D := He.dflB_ok k5
                refine ⟨_, ⟨⟨⟨oexB_ok h1, of_decide_eq_true h4, of_decide_eq_true h5, of_decide_eq_true h6, h7⟩, ⟨oc, od, n8, n9, n10, n11, n12, _, cc, n14, osl, rfl, q, k4, ⟨ccl, cdd, vs, ccs, tf, lc, hvs⟩, cl, cld, csl, lcc⟩,
                  of_decide_eq_true h8, of_decide_eq_true h9, of_decide_eq_true h10, of_decide_eq_true h11, of_decide_eq_true h12⟩, of_decide_eq_true h13, of_decide_eq_true h14, ?_, xfB_ok h3⟩⟩
                rcases D with ⟨z, _⟩ | ⟨_, T, o, its, m, rfl, lT, oT, rT⟩
                · cases z
                · intro s us X hlen
                  rw [List.append_nil] at hlen ⊢
                  obtain ⟨k, e1, e2⟩ := hb T cc n9 n10 n11 n12 _ n14 us its hlen rT.length.symm
                  refine BindsTo.of_looks fun M => ?_
                  refine Eq.mpr (congrArg (fun z => PySem.W.Looks M s.heap z _) e1) ?_
                  exact looks_items X lT oT (.of_pure e2)
              · cases k3
            · cases k3
          · cases k3
        · cases k2
      · cases h2
    | _ => cases e
end My

namespace My
open PySem PySem.Spec PyProof.Rows L2
/-! ### an error kept behind its clause: asked by isinstance, its value read -/
/-- a caught error: its class, its dict -/
def ExK (cls : Value) (d : Option Addr) (a : Addr) : HO := .ext fun h => ∃ (oe : Obj) (vs : Array Value), h.get? a = some oe ∧ Zc cls d oe ∧ oe.data = .fields vs
section
variable {X : Cx} {pins : List (Addr × Obj)} {σ : L2.St} {H : Hp} {s : Shared} {a : Addr}
/-- what is not there in a state is none of what the state speaks of -/
theorem _root_.L2.Inv.newIn (I : Inv X pins σ H s) (hx : X.ex = []) (na : s.heap.get? a = none) : X.s_0.heap.get? a = none ∧ a ≠ X.env.locals ∧ (∀ x c, X.env.cells.lookup x = some c → a ≠ c) ∧ ∀ p ∈ X.pn ++ pins, a ≠ p.1 := by
  refine ⟨?_, ?_, ?_, ?_⟩
  · cases e : X.s_0.heap.get? a with
    | none => rfl
    | some o =>
      obtain ⟨o', e'⟩ := I.base.there a o e (by rw [hx]; exact fun z => nomatch z)
      rw [na] at e'
      cases e'
  · obtain ⟨m, ⟨o, es, ep, ho, _⟩, _⟩ := I.loc
    exact fun e => by rw [← e, na] at ho; cases ho
  · intro x c e z
    obtain ⟨v, o, ho, _⟩ := I.cell x c e
    rw [← z, na] at ho
    cases ho
  · intro p hp z
    have ho := (I.pin p hp).1
    rw [← z, na] at ho
    cases ho
/-- an object that is there is from now on told of -/
theorem _root_.L2.Inv.track {cls : Value} {d : Option Addr} {oe : Obj} {vs : Array Value} (I : Inv X pins σ H s) (ha : s.heap.get? a = some oe) (z : Zc cls d oe) (hd : oe.data = .fields vs) (na : H a = none) (n0 : X.s_0.heap.get? a = none) (nL : a ≠ X.env.locals)
    (nC : ∀ x c, X.env.cells.lookup x = some c → a ≠ c) (nP : ∀ p ∈ X.pn ++ pins, a ≠ p.1) : Inv X pins σ (upd H a (ExK cls d a)) s := by
  have ne : ∀ {b : Addr} {o : HO}, H b = some o → b ≠ a := fun {b o} e q => by rw [q, na] at e; cases e
  refine ⟨I.ok, I.os, I.bare, ⟨I.base.keep, I.base.slot, fun b o e n hx => ?_, I.base.there, fun b xs e => ?_, fun b o u e => ?_, fun b ps e => ?_⟩, I.loc, I.cell, ?_, fun x c e => ?_, fun p hp => ?_, fun b u e => ?_, I.len⟩
  · rw [upd_ne fun q => by rw [q, n0] at e; cases e]
    exact I.base.free b o e n hx
  · have q := I.base.tups b xs e
    rw [upd_ne (ne q)]
    exact q
  · have q := I.base.frzs b o u e
    rw [upd_ne (ne q)]
    exact q
  · obtain ⟨m, q⟩ := I.base.tbls b ps e
    exact ⟨m, by rw [upd_ne (ne q)]; exact q⟩
  · rw [upd_ne fun q => nL q.symm]
    exact I.free
  · rw [upd_ne fun q => nC x c e q.symm]
    exact I.freeC x c e
  · obtain ⟨e, n, r⟩ := I.pin p hp
    exact ⟨e, by rw [upd_ne fun q => nP p hp q.symm]; exact n, r⟩
  · by_cases hb : b = a
    · subst hb
      rw [upd_same] at e
      cases e
      exact ⟨⟨oe, vs, ha, z, hd⟩, ⟨oe, ha⟩, fun _ _ ⟨o, v, q, r⟩ k => ⟨o, v, k o q, r⟩⟩
    · rw [upd_ne hb] at e
      exact (I.hok b u e).stay (fun c v _ q => q) (fun c q => by rw [upd_ne (ne q)]; exact q) fun c xs q => by rw [upd_ne (ne q)]; exact q
end
/-- as wManyAs, the error told of behind the clause -/
def wKeepAs (K : PySem.W.Frag) (i : Nat) (Wout : WX) (D : Ends) : List (Value × (Addr → Value → Option Addr → TS)) → WX
  | [] => Wout
  | (c, ts) :: r => fun cls d σ H => ∃ b, PySem.W.exmOne K cls c = some b ∧ (b = true → ∀ a, H a = none → ts a cls d { nx := fun σ' H' => D.nx (σ'.set i none) (upd H' a (ExK cls d a)), rt := D.rt, bk := fun σ' H' => D.bk (σ'.set i none) H', ct := fun σ' H' => D.ct (σ'.set i none) H' } (σ.set i (some (.ref a))) H) ∧
    (b = false → wKeepAs K i Wout D r cls d σ H)
section
variable {X : Cx} {n : Str} {i : Nat} {body : List Stmt} {h₀ : ExceptHandler} {hds : List ExceptHandler} {l : List (Value × (Addr → Value → Option Addr → TS))} {pos : Pos} {tb : WX → TS} {Wout : WX}
theorem ps_try_keep (hx0 : X.ex = []) (hs : X.stack = X.env :: X.outer) (hf : X.env.frame = some X.env.locals) (hN : X.N.Nodup) (hi : X.N[i]? = some n) (hln : X.env.kindOf n = some .local) (tk : Takes X Wout)
    (hb : ∀ (W : WX) (pn : List (Addr × Obj)) (xe : Value → Shared → Prop), Takes (X.tr pn xe) W → PassesOwn (model X.prog X.w) X.A X.env xe → PSs (X.tr pn xe) body (tb W))
    (hh : HdsAs X n (h₀ :: hds) l) : PS X (.Try body (h₀ :: hds) [] [] pos) (fun D σ H => tb (wKeepAs X.K i Wout D l) D σ H) := by
  refine ⟨fun pins s σ H D I h => ?_⟩
  have ok := I.ok
  have hfr : X.A.frames = some (X.env :: X.outer) := by rw [ok.frames, hs]
  have hloc : Loc X.env.scope n := .inl hln
  refine wpAny_Try_except ?_
  refine wpAny_mono ((hb (wKeepAs X.K i Wout D l) (X.pn ++ pins) (fun e s₁ => wpAny (model X.prog X.w) X.A (noteFrame e X.env) (fun _ s₂ => wpAny (model X.prog X.w) X.A (setFlight e none) (fun _ s₃ =>
    wpAny (model X.prog X.w) X.A (handleBy e X.env (h₀ :: hds)) (SP X pins D) X.xe s₃) X.xe s₂) X.xe s₁) (fun u s' xx => ?_) PassesOwn.looking).run [] s σ H D (I.toTry _) h) (fun f s1 hsp => ?_) (fun e s1 he => he)
  · -- the catch
    obtain ⟨a, B, sI, pins', σ', H', cls, d, rfl, J', nb, up, sky, na, os, ag, w⟩ := xx
    have J : Inv X pins σ' H' sI := J'.ofTry ok
    have sky' : Sky B (X.env :: X.outer) a (Zc cls d) X.env.locals s'.heap := by rw [← hs]; exact sky
    show wpAny (model X.prog X.w) X.A (noteFrame (.ref a) X.env) _ _ _
    refine Sky.land Zc.steady hfr hf sky' fun h3 fl3 up3 => ?_
    have J3 : Inv X pins σ' H' { s' with heap := h3 } := J.landed nb fl3.1 (up.trans up3) os ag
    obtain ⟨oe3, vs3, he3, hz3, hd3⟩ := fl3.there
    have notFr : ∀ {h : Heap} {o : Obj} {vs : Array Value}, h.FunFrames B (X.env :: X.outer) → h.get? a = some o → o.data = .fields vs → a ∉ frs (X.env :: X.outer) := fun {h o vs} ff e dd hm => by
      obtain ⟨_, o', e', hnf⟩ := ff.mem hm
      rw [e] at e'; cases e'
      exact hnf _ dd
    have nfr := notFr fl3.2.2.1 he3 hd3
    have nL : a ≠ X.env.locals := fun z => nfr (List.mem_filterMap.mpr ⟨X.env, List.mem_cons_self, by rw [hf, z]⟩)
    have nF : a ∉ X.fs := fun hm => by
      obtain ⟨e, he, q⟩ := List.mem_filterMap.mp hm
      exact nfr (List.mem_filterMap.mpr ⟨e, List.mem_cons_of_mem _ he, q⟩)
    have S3 := J3.suite he3 hd3 na nL nF
    have new := Inv.newIn J hx0 (a := a) (by
      cases e : sI.heap.get? a with
      | none => rfl
      | some o =>
        have := nb a o e (by rw [hs]; exact nfr)
        rw [fl3.2.1] at this
        cases this)
    have go : ∀ {hds' : List ExceptHandler} {l' : List (Value × (Addr → Value → Option Addr → TS))}, HdsAs X n hds' l' → wKeepAs X.K i Wout D l' cls d σ' H' →
        wpAny (model X.prog X.w) X.A (handleBy (.ref a) X.env hds') (SP X pins D) X.xe { s' with heap := h3 } := by
      intro hds' l' hk
      induction hk with
      | nil =>
        intro w
        refine wpAny_handleBy_nil ?_
        obtain ⟨k1, k2, k3, oe, vs, T, oT, ts', he, hz, hd, h1, hr⟩ := id fl3
        unfold PySem.passOn
        refine wpAny_bind (wpAny_field he hd h1 ?_)
        rw [if_neg (show ¬ ((Value.ref T == Value.none) = true) from by simp)]
        have fin : wpAny (model X.prog X.w) X.A (setFlight (.ref a) X.env.frame) (fun _ s4 => wpAny (model X.prog X.w) X.A (throw (.ref a) : Sem Flow) (SP X pins D) X.xe s4) X.xe { s' with heap := h3 } := by
          rw [hf]
          refine HandSPX.setFlight_upZ fl3 fun h4 hh4 up4 => wpAny_throw (tk _ _ ?_)
          exact ⟨a, B, sI, pins, σ', H', cls, d, rfl, J, nb, (up.trans up3).trans up4, .inr (.inr (by rw [hs]; exact hh4)), na, os, ag, w⟩
        first
          | exact wpAny_bind (wpAny_pure (wpAny_bind fin))
          | exact wpAny_bind fin
      | @cons x c ts b₀ suite np pos' hds2 l2 hc hsu r ih =>
        intro w
        obtain ⟨b, hb1, hyes, hno⟩ := w
        refine wpAny_handleBy_cons (codeAny_handlers_test ?_) (by intro q; cases q)
        have LT : PySem.W.Looks (model X.prog X.w) h3 (typeOf (.ref a)) cls := fun A Q E s k q => wpAny_typeOf_ref (k _ _ he3) (by rw [hz3.1]; exact q)
        have LM := PySem.W.exm_one (M := model X.prog X.w) (J3.kIn) LT hb1
        have test : ∀ {Q : Value → Shared → Prop} {E : Value → Shared → Prop}, Q c { s' with heap := h3 } → wpAny (model X.prog X.w) (X.A.mark (some (.ref a))) (eval (.Name x np) X.env) Q E { s' with heap := h3 } := fun {Q E} q => by
          obtain ⟨hg, hdbg, hm | ⟨hm, hv, hnn⟩⟩ := hc
          · exact ld_glob (X := X.suite a ((a, oe3) :: (X.pn ++ pins))) S3 hg hm q hdbg
          · exact ld_blt (X := X.suite a ((a, oe3) :: (X.pn ++ pins))) S3 hg hm hv q hnn hdbg
        refine test (LM.here ?_)
        cases b with
        | true =>
          refine codeAny_handlers_suite_as ?_
          refine HandSPX.lands_againZ fl3 fun h4 fl4 up4 => ?_
          have J4 : Inv X pins σ' H' { s' with heap := h4 } := J.landed nb fl4.1 ((up.trans up3).trans up4) os ag
          obtain ⟨oe4, vs4, he4, hz4, hd4⟩ := fl4.there
          have S4 := J4.suite he4 hd4 na nL nF
          refine store_ok (X := X.suite a ((a, oe4) :: (X.pn ++ pins))) (v := .ref a) S4 hN hi hloc rfl (fun s5 S5 => ?_) (.inr hln)
          refine wpAny_mono ((hsu a oe4 cls d (X.pn ++ pins) hz4 ⟨_, hd4⟩).run [] s5 _ H' _ S5 (hyes rfl a na)) (fun f s6 hsp => ?_) (fun _ _ z => False.elim z)
          have end_ : ∀ {σ6 : L2.St} {H6 : Hp} {Q : Shared → Prop}, Inv (X.suite a ((a, oe4) :: (X.pn ++ pins))) [] σ6 H6 s6 → (∀ s7, Inv X pins (σ6.set i none) H6 s7 → Q s7) →
              wpAny (model X.prog X.w) X.A (do bindName X.env n .none; unbindBehindTheSuite X.env n pos') (fun _ s7 => Q s7) X.xe s6 := fun {σ6 H6 Q} S6 hq => gone_ok (S6.unsuite ok) hN hi hln hq
          cases f with
          | next =>
            obtain ⟨σ6, H6, S6, q6⟩ := hsp
            obtain ⟨ha6, na6, _, _, _⟩ := S6.pin (a, oe4) (List.mem_append.mpr (.inl List.mem_cons_self))
            exact gone_ok (Inv.track (S6.unsuite ok) ha6 hz4 hd4 na6 new.1 new.2.1 new.2.2.1 new.2.2.2) hN hi hln fun s7 J7 => ⟨_, _, J7, q6⟩
          | brk =>
            obtain ⟨σ6, H6, S6, q6⟩ := hsp
            exact end_ S6 fun s7 J7 => ⟨_, _, J7, q6⟩
          | cont =>
            obtain ⟨σ6, H6, S6, q6⟩ := hsp
            exact end_ S6 fun s7 J7 => ⟨_, _, J7, q6⟩
          | ret u =>
            obtain ⟨v6, σ6, H6, S6, r6, q6⟩ := hsp
            exact end_ S6 fun s7 J7 => ⟨_, _, _, J7, r6, q6⟩
        | false =>
          show wpAny _ X.A (handleBy (.ref a) X.env hds2) _ _ _
          exact ih (hno rfl)
    exact go hh w
  · cases f with
    | next =>
      obtain ⟨σ', H', J', q⟩ := hsp
      exact wpAny_execs_nil ⟨σ', H', J'.ofTry ok, q⟩
    | brk =>
      obtain ⟨σ', H', J', q⟩ := hsp
      exact ⟨σ', H', J'.ofTry ok, q⟩
    | cont =>
      obtain ⟨σ', H', J', q⟩ := hsp
      exact ⟨σ', H', J'.ofTry ok, q⟩
    | ret u =>
      obtain ⟨v, σ', H', J', r, q⟩ := hsp
      exact ⟨v, σ', H', J'.ofTry ok, r, q⟩
end
/-! ### isinstance of it, its value -/
/-- what isinstance asks of the class of an error -/
structure ExcI (K : PySem.W.Frag) (D : Addr) : Prop where
  xf : XfC K D
  ha : PySem.W.findIn K (.ref D) "__class__" = some (some (.builtin "object.__class__"))
  hn : PySem.W.specialIn K (.builtin "object.__class__") "__get__" = some (some (.builtin "getset_descriptor.__get__"))
  ht : PySem.W.takesIn K (.builtin "object.__class__") = some true
  hm : PySem.W.mroIn K D (.type "object") = some true
/-- its class by name, the error with a dict of its own -/
theorem cls_named {prog : Program} {w : World} {A : Around} {F : Value → Shared → Prop} {st : Shared} {K : PySem.W.Frag} {a C : Addr} {oe od : Obj} {G : Option Value → Shared → Prop} (c : ExcI K C) (hK : K.In st.heap) (J : PySem.W.InstAt st.heap a oe C (some od))
    (g : G (some (.ref C)) { st with toks := st.toks + 1 }) : wpAny (model prog w) A (getAttr? (.ref a) "__class__") G F st := by
  have found : PySem.W.findObj K C (some od) "__class__" = some (.bind (.builtin "getset_descriptor.__get__") (.builtin "object.__class__")) := by
    refine PySem.W.findObj_data ?_ c.ha c.hn c.ht
    obtain ⟨kd, hk, _⟩ := PySem.W.any_some c.xf.hdC
    rw [hk]
    rfl
  obtain ⟨hh, gs, dr, tk, o5⟩ := st
  have isC := J.type (M := model prog w)
  have isGa := PySem.W.looks_findIn (M := model prog w) hK c.xf.ga
  have isGg := PySem.W.looks_findIn (M := model prog w) hK c.xf.gg
  have isIt := PySem.W.looks_find (M := model prog w) hK J found
  have isSub : PySem.W.Looks (model prog w) hh (isInstance (.ref a) (.type "BaseException")) true := isC.andThen (PySem.W.looks_subIn hK c.xf.exC)
  have n1 : (Value.builtin "BaseException.__getattribute__" == Value.builtin "object.__getattribute__") = false := by decide +kernel
  have n2 : (onTheHeap (Value.ref C) && Value.builtin "BaseException.__getattribute__" == Value.builtin "object.__getattribute__") = false := by rw [n1]; exact Bool.and_false _
  have n3 : (false && onTheHeap (Value.builtin "BaseException.__getattribute__")) = false := Bool.false_and _
  unfold getAttr? getAttrBy? getAttrBy
  refine wpAny_bind (wpAny_mkText (wpAny_bind (wpAny_attempt (wpAny_holding (wpAny_bind (isC.at (wpAny_bind (isGa.at ?_))))))))
  change wpAny _ _ (if (onTheHeap (Value.ref C) && Value.builtin "BaseException.__getattribute__" == Value.builtin "object.__getattribute__") = true then _ else _) _ _ _
  rw [n2]
  rw [if_neg Bool.false_ne_true]
  unfold getAttrByItsOwn hookBefore
  refine wpAny_bind ?_
  have n4 : onTheHeap (Value.ref C) = true := by rfl
  rw [if_pos n4]
  refine isGg.at (wpAny_bind (wpAny_attempt (wpAny_holding ?_)))
  unfold callGetattribute
  rw [n3]
  rw [if_neg Bool.false_ne_true]
  unfold boundAndCalled
  rw [PySem.F.excAttr_ValueError.ga.bind (.ref a)]
  refine wpAny_bind (wpAny_pure ?_)
  change wpAny _ _ (call (.builtin "BaseException.__getattribute__") [.ref a, .str "__class__" tk]) _ _ _
  refine wpAny_call (codeAny_call_builtin PySem.F.excAttr_ValueError.ga.plain PySem.F.entry_bexc_ga ?_)
  refine @PySem.W.check_slot (model prog w) _ _ ⟨hh, gs, dr, tk + 1, o5⟩ "BaseException.__getattribute__" "BaseException" "__getattribute__" (.ref a) [.str "__class__" tk] [] _ (by decide +kernel) (by decide +kernel) isSub (PySem.F.args_bexc_ga _ _) ?_
  unfold Builtin.«object.__getattribute__»
  refine wpAny_bind (wpAny_of_eq (a := ((Value.ref a : Value), [Value.str "__class__" tk])) (by first | rfl | (simp only [slotArgs]; rfl)) (wpAny_bind (wpAny_pure (wpAny_bind (isC.at (wpAny_bind (isIt.at ?_)))))))
  change wpAny _ _ (holding [Value.builtin "object.__class__"] (call (.builtin "getset_descriptor.__get__") [.builtin "object.__class__", .ref a, .ref C]) >>= ret) _ _ _
  refine wpAny_bind (wpAny_holding (wpAny_call (PySem.W.class_get (s := ⟨hh, gs, dr, tk + 1, o5⟩) (ox := oe) (od := some od) hK J c.hm (wpAny_pure ?_))))
  change wpAny _ _ (handedOut (.ref C)) _ _ _
  rw [PySem.W.handedOut_of (v := .ref C) rfl]
  first
    | exact wpAny_pure g
    | exact wpAny_pure (wpAny_pure g)
    | exact wpAny_pure (wpAny_bind (wpAny_pure (wpAny_pure g)))
/-- the error is an object of its class, its dict there -/
theorem kit_err {K : PySem.W.Frag} {a C : Addr} {oe od : Obj} (c : ExcI K C) : PySem.W.KitX K (.ref a) (.ref C) (fun h => PySem.W.InstAt h a oe C (some od)) where
  ty := fun _ _ _ J => J.type
  it := fun _ h hK _ => by
    obtain ⟨kd, hk, _⟩ := PySem.W.any_some c.xf.hdC
    unfold PySem.W.clsIn at hk
    split at hk
    · rename_i e1 e2 e3 e4 there
      intro B R' F' st keep goal
      unfold isType loadHead
      exact wpAny_bind (wpAny_loadPart (keep _ _ (hK _ _ there)) (wpAny_pure goal))
    · cases hk
  ne := fun h t dd is m sl hK ht => by
    obtain ⟨kd, hk, _⟩ := PySem.W.any_some c.xf.hdC
    cases q : (Value.ref C == Value.ref t) with
    | false => rfl
    | true =>
      obtain rfl : C = t := Value.ref.inj (beq_iff_eq.mp q)
      unfold PySem.W.clsIn at hk
      split at hk
      · rename_i e1 e2 e3 e4 there
        have z := (hK _ _ there).symm.trans ht
        cases z
      · cases hk
  ca := fun hK J g => cls_named c hK J g
/-- isinstance(x, c): x a kept error, or any other thing as before -/
def rIsiE (K : PySem.W.Frag) : List V → Hp → VK → Prop := fun xs H Q => rIsi K xs H Q ∨ ∃ (a C dd : Addr) (fs : List (Str × V)) (c : V) (u : Value) (b : Bool), xs = [.ref a, c] ∧ H a = some (ExK (.ref C) (some dd) a) ∧ H dd = some (.xd fs) ∧ ExcI K C ∧ ClsV c u ∧ PySem.W.kitOne K (.ref C) u = some b ∧ Q (.bl b) H
section
variable {X : Cx}
theorem inst_kept {pins : List (Addr × Obj)} {σ : L2.St} {H : Hp} {s : Shared} {a C dd : Addr} {fs : List (Str × V)} (I : Inv X pins σ H s) (ha : H a = some (ExK (.ref C) (some dd) a)) (hd : H dd = some (.xd fs)) :
    ∃ (oe od : Obj) (mA : Str → Option Value), PySem.W.InstAt s.heap a oe C (some od) ∧ s.heap.get? dd = some od ∧ (∀ n, PySem.W.lookIn n od = some (mA n)) ∧ ∀ f, RelO (fs.lookup f) (mA f) := by
  obtain ⟨⟨oe, vs, he, hz, hv⟩, _⟩ := I.hok a _ ha
  obtain ⟨mA, hns, hr⟩ := (show ObjOk X.prog X.w H s.heap dd (.xd fs) from I.hok dd _ hd)
  obtain ⟨od, ho, hl⟩ := lookIn_ns hns
  exact ⟨oe, od, mA, ⟨he, hz.1, by unfold PySem.W.notCls; rw [hv] <;> rfl, by rw [hz.2]; exact ho⟩, ho, hl, hr⟩
theorem call_isiE : CallR X (.builtin "isinstance") (rIsiE X.K) := by
  intro pins s σ H xs us Q I r h
  rcases h with h | ⟨a, C, dd, fs, c, u, b, rfl, ha, hd, hc, hu, hk, q⟩
  · exact call_isi pins s σ H xs us Q I r h
  · obtain ⟨oe, od, mA, J, _⟩ := inst_kept I ha hd
    obtain ⟨u1, u2, rfl, r1, r2⟩ := r.two
    obtain rfl : u1 = Value.ref a := r1
    obtain rfl := hu.eq r2
    exact PySem.W.kia_one (kit_err hc) I.kIn J hk (fun z => nomatch z) fun tk => ⟨.bl b, H, I.tok tk, rfl, q⟩
theorem k_isiE (K : PySem.W.Frag) (h : X.K = K) : CallR X (.builtin "isinstance") (rIsiE K) := by subst h; exact call_isiE
/-- err.f of a kept error -/
def tXfK (K : PySem.W.Frag) (f : Str) (te : TE) : TE := fun σ H Q => te σ H fun x H1 => ∃ (a C dd : Addr) (fs : List (Str × V)) (v : V), x = .ref a ∧ H1 a = some (ExK (.ref C) (some dd) a) ∧ H1 dd = some (.xd fs) ∧ XfC K C ∧ PySem.W.findIn K (.ref C) f = some none ∧ fs.lookup f = some v ∧ Q v H1
theorem pe_xfK {e : Expr} {te : TE} {pos : Pos} {n : Str} (he : PE X e te) (hb : attributeBase e n X.env (eval e X.env) = eval e X.env := by rfl) : PE X (.Attribute e n pos) (tXfK X.K n te) := by
  refine ⟨fun pins s σ H Q I h => ?_⟩
  refine attr_of hb (thn (he.run pins s σ H _ I h) fun u s1 hh => ?_)
  obtain ⟨x, H1, I1, rx, a, C, dd, fs, v, ex, ha, hd, T, hno, l, q⟩ := hh
  subst ex
  obtain rfl : u = Value.ref a := rx
  obtain ⟨oe, od, mA, J, ho, hl, hr⟩ := inst_kept I1 ha hd
  obtain ⟨u, hu, ru⟩ := RelO.some_of (v := v) (o := mA n) (by rw [← l]; exact hr n)
  exact HandSPX.exc_get I1.kIn J T.ga T.gg T.exC (PySem.W.findObj_own T.hdC hno rfl (by rw [hl, hu])) (handed_of ru) ⟨v, H1, I1.tok _, ru, q⟩
end
end My

namespace My
open PySem PySem.Spec PyProof.Rows L2 Pre PySem.W
/-! ### a function called by a local name -/
def tCallV (P : Program) (w : World) (K : PySem.W.Frag) (mg : Str → Option Value) (base : Heap) (CX : CXT) (k : Nat) (E : XK) (tf : TE) (t : TA) : TE := fun σ H Q => tf σ H fun v H1 =>
  ∃ (f : Addr) (fd : FuncData) (ps : List Str) (sp : Sp), v = .ref f ∧ FnOk P w K mg base CX k f fd ps sp ∧ PySem.W.keepIn K (.ref f) = true ∧ Binds K fd ps [] ∧ t σ H1 fun vs H2 => sp vs H2 Q E
section
variable {X : Cx} {CX : CXT} {k : Nat} {E : XK} {x : Str} {p pos : Pos} {e : Expr} {es : List Expr} {tf : TE} {t : TA}
theorem pe_callV (hr : Room k X.A) (hf : PE X (.Name x p) tf) (hx : Passes CX X E) (ha : PA X (e :: es) t) (he : starEach (e :: es) X.env = (false, eval e X.env) :: starEach es X.env := by rfl) (hpl : (backTo pos (starEach es X.env)).any (·.1) = false := by rfl) :
    PE X (.Call (.Name x p) (e :: es) [] pos) (tCallV X.prog X.w X.K X.mg X.base CX k E tf t) := by
  refine ⟨fun pins s σ H Q I h => ?_⟩
  refine wpAny_Call_Name_kw (thn (hf.run pins s σ H _ I h) fun u s1 ⟨v, H1, I1, r, f, fd, ps, sp, ev, F, hk, hb, q⟩ => ?_)
  subst ev
  obtain rfl : u = Value.ref f := r
  refine PySem.W.callWith_K (h₀ := X.base) I1.ok.mod.kin hk (thn (ha.run pos pins s1 σ H1 _ I1 q) fun us s2 ⟨vs, H2, I2, r2, q2⟩ => ⟨I2.kIn, ?_⟩) he hpl
  exact run_fn F hr hb .nil hx I2 r2 (by rw [List.append_nil]; exact q2)
end
/-- what nothing reaches here -/
def sp_no : Sp := fun _ _ _ _ => False
end My

namespace My
open PySem PySem.Spec PyProof.Rows L2 Pre PySem.W
/-! ### a function out of a list, called at once; an instance made in a try -/
theorem arm_sub (v i : Expr) (p : Pos) (xs : List Expr) (kws : List Keyword) (q : Pos) (en : Env) : eval (.Call (.Subscript v i p) xs kws q) en = (do
    callWith q (← eval (.Subscript v i p) en) [] (backTo q (starEach xs en)) (backToKw q (keywordEach kws en))) := rfl
section
variable {X : Cx} {CX : CXT} {k : Nat} {v i : Expr} {p pos : Pos} {e : Expr} {es : List Expr} {tf : TE} {t : TA}
/-- l[i](..) in a try: what the callee raises goes to the clause -/
def tCallU (P : Program) (w : World) (K : PySem.W.Frag) (mg : Str → Option Value) (base : Heap) (CX : CXT) (k : Nat) (E : L2.St → XK) (tf : TE) (t : TA) : TE := fun σ H Q => tf σ H fun v H1 =>
  ∃ (f : Addr) (fd : FuncData) (ps : List Str) (sp : Sp), v = .ref f ∧ FnOk P w K mg base CX k f fd ps sp ∧ PySem.W.keepIn K (.ref f) = true ∧ Binds K fd ps [] ∧ t σ H1 fun vs H2 => sp vs H2 Q (E σ)
theorem pe_callU (P : Program) (w : World) (K : PySem.W.Frag) (mg : Str → Option Value) (base : Heap) (e1 : X.prog = P) (e2 : X.w = w) (e3 : X.K = K) (e4 : X.mg = mg) (e5 : X.base = base) {E : L2.St → XK} (hr : Room k X.A) (hf : PE X (.Subscript v i p) tf)
    (hx : ∀ σ, PassesAt (L2.CX X.prog X.w) X σ (E σ)) (ha : PA X (e :: es) t) (he : starEach (e :: es) X.env = (false, eval e X.env) :: starEach es X.env := by rfl) (hpl : (backTo pos (starEach es X.env)).any (·.1) = false := by rfl) :
    PE X (.Call (.Subscript v i p) (e :: es) [] pos) (tCallU P w K mg base (L2.CX P w) k E tf t) := by
  subst e1 e2 e3 e4 e5
  refine ⟨fun pins s σ H Q I h => ?_⟩
  rw [arm_sub]
  refine wpAny_bind (thn (hf.run pins s σ H _ I h) fun u s1 ⟨v, H1, I1, r, f, fd, ps, sp, ev, F, hk, hb, q⟩ => ?_)
  subst ev
  obtain rfl : u = Value.ref f := r
  refine PySem.W.callWith_K (h₀ := X.base) I1.ok.mod.kin hk (thn (ha.run pos pins s1 σ H1 _ I1 q) fun us s2 ⟨vs, H2, I2, r2, q2⟩ => ⟨I2.kIn, ?_⟩) he hpl
  exact run_fnS F hr hb (hx σ) I2 r2 q2
/-- C(..) in a try -/
def tMakeU (C : Addr) (sp : Sp) (E : L2.St → XK) (t : TA) : TE := fun σ H Q => t σ H fun vs G => ∀ x dx, G x = none → G dx = none → dx ≠ x →
  sp (.ref x :: vs) (upd (upd G dx (.own x)) x (.ins C dx [])) (fun v G2 => v = .non ∧ Q (.ref x) G2) (E σ)
theorem run_makeU {C f : Addr} {fd : FuncData} {ps : List Str} {sp : Sp} {E : L2.St → XK} {pins : List (Addr × Obj)} {σ : L2.St} {H : Hp} {s : Shared} {Q : VK} {us : List Value} {vs : List V} (M : Mk X.K C f) (F : FnOk X.prog X.w X.K X.mg X.base CX k f fd ps sp)
    (rm : Room (k + 1) X.A) (hb : Binds X.K fd ps []) (px : PassesAt CX X σ (E σ)) (I : Inv X pins σ H s) (rv : Vals vs us)
    (h : ∀ x dx, H x = none → H dx = none → dx ≠ x → sp (.ref x :: vs) (upd (upd H dx (.own x)) x (.ins C dx [])) (fun v G2 => v = .non ∧ Q (.ref x) G2) (E σ)) :
    wpAny (model X.prog X.w) X.A (call (.ref C) us) (EP X pins σ Q) X.xe s := by
  let n := s.heap.objs.size
  have hn := h (n + 1) n (I.hok.fresh (Nat.le_succ n)) (I.hok.fresh (Nat.le_refl n)) (Nat.ne_of_lt (Nat.lt_succ_self n))
  have J := Inv.made (C := C) I
  have rw2 : Vals (V.ref (n + 1) :: vs) (Value.ref (n + 1) :: us) := .cons rfl rv
  have ln : (Value.ref (n + 1) :: us).length = ps.length := rw2.length.symm.trans (F.len _ _ _ _ hn)
  have bb := hb _ (Value.ref (n + 1) :: us) J.kIn (by rw [List.append_nil]; exact ln)
  rw [List.append_nil] at bb
  refine wpAny_call (make_map (f := f) I.kIn M.makes M.init (beq_iff_eq.mp M.fn) (codeAny_mono
    (F.run _ X.stack _ _ ⟨Value.ref (n + 1) :: us, []⟩ (Value.ref (n + 1) :: us) _ _ (E σ) (rm.make C us []) (J.env0.make C us []) bb rw2 hn) fun r s' hq => ?_))
  cases r with
  | error x => exact px pins _ _ x s' J hq
  | ok fl =>
    cases fl with
    | ret u =>
      obtain ⟨v, G, I3, r3, ev, q3⟩ := J.after hq
      subst ev
      exact ⟨r3, ⟨V.ref (n + 1), G, I3, rfl, q3⟩⟩
    | next => exact hq.elim
    | brk => exact hq.elim
    | cont => exact hq.elim
theorem pe_makeU {C f : Addr} {fd : FuncData} {ps : List Str} {sp : Sp} {E : L2.St → XK} {x : Str} (M : Mk X.K C f) (F : FnOk X.prog X.w X.K X.mg X.base CX k f fd ps sp) (hr : Room (k + 1) X.A) (hg : Gl X x) (hm : X.mg x = some (.ref C)) (hb : Binds X.K fd ps [])
    (hx : ∀ σ, PassesAt CX X σ (E σ)) (ha : PA X (e :: es) t) (hdb : (x == ("__debug__" : Str)) = false := by decide) (he : starEach (e :: es) X.env = (false, eval e X.env) :: starEach es X.env := by rfl) (hpl : (backTo pos (starEach es X.env)).any (·.1) = false := by rfl) :
    PE X (.Call (.Name x p) (e :: es) [] pos) (tMakeU C sp E t) := by
  refine ⟨fun pins s σ H Q I h => ?_⟩
  refine wpAny_Call_Name_kw (ld_glob I hg hm ?_ hdb)
  refine PySem.W.callWith_K (h₀ := X.base) I.ok.mod.kin M.kp (thn (ha.run pos pins s σ H _ I h) fun us s1 ⟨vs, G, I1, r, q⟩ => ⟨I1.kIn, ?_⟩) he hpl
  exact run_makeU M F hr hb (hx σ) I1 r q
end
end My

namespace My
open PySem PySem.Spec PyProof.Rows PySem.W L2 Pre
/-- products of one small number, or of two that are not too great -/
def CMulA (i j : Int) : Prop := CMul i j ∨ CMulX i j
theorem op_mulA {X : Cx} : OpR X (binaryOp .Mult) (rI CMulA fun i j => .int (i * j)) := fun pins s σ H x y v u Q I r1 r2 h => by
  obtain ⟨i, j, ex, ey, hc, q⟩ := h
  rcases hc with hc | hc
  · exact op_mul pins s σ H x y v u Q I r1 r2 ⟨i, j, ex, ey, hc, q⟩
  · exact op_mulX pins s σ H x y v u Q I r1 r2 ⟨i, j, ex, ey, hc, q⟩
end My

namespace My
open PySem PySem.Spec PyProof.Rows PySem.W L2 Pre
/-! ### sorted, of pairs of rows of whole numbers; rows compared -/
def pairDt (p : List Int × List Int) : PyData := .tuple [.list (p.1.map PyData.int), .list (p.2.map PyData.int)]
theorem eqv_ints : ∀ xs ys : List Int, PyData.eqvAll (xs.map PyData.int) (ys.map PyData.int) = decide (xs = ys)
  | [], [] => by simp [PyData.eqvAll]
  | [], _ :: _ => by simp [PyData.eqvAll]
  | _ :: _, [] => by simp [PyData.eqvAll]
  | x :: xs, y :: ys => by
    rw [List.map_cons, List.map_cons, eqv_all_cons, eqv_ints xs ys]
    by_cases h : x = y
    · simp [PyData.eqv, h]
    · simp [PyData.eqv, h]
def leP (p q : List Int × List Int) : Prop := p.1 < q.1 ∨ (p.1 = q.1 ∧ p.2 ≤ q.2)
instance (p q : List Int × List Int) : Decidable (leP p q) := by unfold leP; infer_instance
theorem leP_trans {p q r : List Int × List Int} (h1 : leP p q) (h2 : leP q r) : leP p r := by
  rcases h1 with h1 | ⟨e1, h1⟩
  · rcases h2 with h2 | ⟨e2, h2⟩
    · exact .inl (List.lt_trans h1 h2)
    · exact .inl (e2 ▸ h1)
  · rcases h2 with h2 | ⟨e2, h2⟩
    · exact .inl (e1 ▸ h2)
    · exact .inr ⟨e1.trans e2, List.le_trans h1 h2⟩
theorem leP_total (p q : List Int × List Int) : leP p q ∨ leP q p := by
  by_cases a : p.1 < q.1
  · exact .inl (.inl a)
  · by_cases b : q.1 < p.1
    · exact .inr (.inl b)
    · have e : p.1 = q.1 := List.le_antisymm (List.not_lt.mp b) (List.not_lt.mp a)
      rcases List.le_total p.2 q.2 with h | h
      · exact .inl (.inr ⟨e, h⟩)
      · exact .inr (.inr ⟨e.symm, h⟩)
theorem leP_fst {p q : List Int × List Int} (h : leP p q) : p.1 ≤ q.1 := by
  rcases h with h | ⟨e, _⟩
  · exact List.le_of_lt h
  · rw [e]; exact List.le_refl _
theorem dataLt_list2 (xs ys : List Int) : dataLt (.list (xs.map PyData.int)) (.list (ys.map PyData.int)) = decide (xs < ys) := by
  rw [dataLt_list]
  exact dataLt_ints xs ys
theorem dataLe_pairs {β : Type} (x : β → List Int × List Int) : (dataLe false fun b => pairDt (x b)) = fun p q => decide (leP (x p) (x q)) := by
  funext p q
  show (!dataLt (pairDt (x q)) (pairDt (x p))) = _
  unfold pairDt
  rw [dataLt_pair (by simp [alike, W.alike_ints]) (by simp [alike, W.alike_ints])]
  have e1 : ∀ as bs : List Int, PyData.eqv (.list (as.map PyData.int)) (.list (bs.map PyData.int)) = decide (as = bs) := fun as bs => by
    rw [← eqv_ints]
    simp [PyData.eqv]
  rw [e1, e1, dataLt_list2, dataLt_list2]
  by_cases h1 : (x q).1 = (x p).1
  · rw [if_pos (decide_eq_true h1)]
    by_cases h2 : (x q).2 = (x p).2
    · rw [if_pos (decide_eq_true h2), decide_eq_true (show leP (x p) (x q) from .inr ⟨h1.symm, by rw [h2]; exact List.le_refl _⟩)]
      rfl
    · rw [if_neg (by simpa using h2)]
      by_cases h3 : (x q).2 < (x p).2
      · rw [decide_eq_true h3, decide_eq_false]
        · rfl
        · rintro (z | ⟨_, z⟩)
          · rw [h1] at z; exact List.lt_irrefl _ z
          · exact List.not_lt.mpr z h3
      · rw [decide_eq_false h3, decide_eq_true (show leP (x p) (x q) from .inr ⟨h1.symm, List.not_lt.mp h3⟩)]
        rfl
  · rw [if_neg (by simpa using h1)]
    by_cases h3 : (x q).1 < (x p).1
    · rw [decide_eq_true h3, decide_eq_false]
      · rfl
      · rintro (z | ⟨z, _⟩)
        · exact List.lt_irrefl _ (List.lt_trans z h3)
        · exact h1 z.symm
    · have h4 : (x p).1 < (x q).1 := by
        by_cases z : (x p).1 < (x q).1
        · exact z
        · exact absurd (List.le_antisymm (List.not_lt.mp z) (List.not_lt.mp h3)) h1
      rw [decide_eq_false h3, decide_eq_true (show leP (x p) (x q) from .inl h4)]
      rfl
def rSortedP (K : PySem.W.Frag) : List V → Hp → VK → Prop := fun vs H Q => ∃ (a : Addr) (ps : List (V × (List Int × List Int))), vs = [V.ref a] ∧ SqL K H a (ps.map Prod.fst) ∧ (∀ q ∈ ps, Dp K H q.1 (pairDt q.2)) ∧ ∀ (qs : List (V × (List Int × List Int))) (p : Addr), qs.Perm ps → qs.Pairwise (fun x y => x.2.1 ≤ y.2.1) → H p = none → Q (.ref p) (upd H p (.lst (qs.map Prod.fst)))
theorem pair_depth (r : List Int × List Int) : (pairDt r).depth ≤ 3 := by
  have e : ∀ xs : List Int, (PyData.list (xs.map .int)).depth ≤ 2 := fun xs => by
    rw [PyData.depth, Pre.depth_ints]
    omega
  have h1 := e r.1
  have h2 := e r.2
  unfold pairDt
  simp only [PyData.depth, PyData.depthAll] at h1 h2 ⊢
  omega
theorem pairs_each {X : Cx} {pins : List (Addr × Obj)} {σ : L2.St} {H : Hp} {s : Shared} (I : Inv X pins σ H s) : ∀ {ps : List (V × (List Int × List Int))} {us : List Value}, Vals (ps.map Prod.fst) us → (∀ q ∈ ps, Dp X.K H q.1 (pairDt q.2)) →
    EachIs (fun u q => RelV q.1 u) us ps ∧ EachIs (fun u q => ∃ as, Reads s.heap u (pairDt (Prod.snd q)) as) us ps
  | [], _, r, _ => by
    cases r
    exact ⟨.nil, .nil⟩
  | q :: ps, _, r, h => by
    rw [List.map_cons] at r
    cases r with
    | cons r1 r2 =>
      have ih := pairs_each I r2 fun z hz => h z (List.mem_cons_of_mem _ hz)
      exact ⟨.cons r1 ih.1, .cons (Dp.reads I _ _ _ (h q List.mem_cons_self) r1) ih.2⟩
theorem each_pvals : ∀ {us : List Value} {ps : List (V × (List Int × List Int))}, EachIs (fun u q => RelV q.1 u) us ps → Vals (ps.map Prod.fst) us
  | _, _, .nil => .nil
  | _, _, .cons h t => by rw [List.map_cons]; exact .cons h (each_pvals t)
theorem k_sortedP {X : Cx} (K : PySem.W.Frag) (h : X.K = K) (hu : X.A.units + 65 < cLine) : CallR X (.builtin "sorted") (rSortedP K) := by
  subst h
  intro pins s σ H vs us Q I r h
  obtain ⟨a, ps, rfl, hs, hp, q⟩ := h
  obtain ⟨its, rv, hl, hz⟩ := I.list hs
  rw [Vals.ref1 r]
  obtain ⟨e1, e2⟩ := pairs_each I rv hp
  refine sorted_data (enc := fun q : V × (List Int × List Int) => pairDt q.2) hl.isList e1 e2 (AllAlike.of fun x y => by simp [pairDt, alike, alikeAll, W.alike_ints]) (Sortable.tuples fun x => ⟨_, _, rfl⟩) (by rw [List.length_map] at hz; exact hz) (fun b _ => by have := pair_depth b.2; show _ + _ + (pairDt b.2).depth < _; omega) fun out h1 h2 => ?_
  rw [dataLe_pairs (fun q : V × (List Int × List Int) => q.2)] at h2
  have hperm := List.mergeSort_perm ps fun p q : V × (List Int × List Int) => decide (leP p.2 q.2)
  have hpw := List.pairwise_mergeSort (le := fun p q : V × (List Int × List Int) => decide (leP p.2 q.2)) (fun a b c h1 h2 => decide_eq_true (leP_trans (of_decide_eq_true h1) (of_decide_eq_true h2))) (fun a b => by
    rw [Bool.or_eq_true, decide_eq_true_eq, decide_eq_true_eq]
    exact leP_total _ _) ps
  obtain ⟨ep, at_⟩ := sortedAll_at s.heap its out.toArray
  refine ⟨.ref _, upd H (s.heap.objs.size + 1) (.lst ((ps.mergeSort fun p q : V × (List Int × List Int) => decide (leP p.2 q.2)).map Prod.fst)), I.laid (t' := s.toks) (fun _ _ => sortedAll_old) (Nat.le_succ _) ⟨?_, out.toArray.toList, ep, by simpa using each_pvals h2, at_⟩, rfl, q _ _ hperm (hpw.imp fun h => leP_fst (of_decide_eq_true h)) (I.hok.fresh (Nat.le_succ _))⟩
  rw [List.length_map, hperm.length_eq]
  rw [List.length_map] at hz
  exact hz
/-! ### list > list, of whole numbers -/
def rGtR (K : PySem.W.Frag) : R2 := fun x y H Q => ∃ ns ms : List Int, Dp K H x (.list (ns.map PyData.int)) ∧ Dp K H y (.list (ms.map PyData.int)) ∧ Q (.bl (decide (ms < ns))) H
theorem op_gtR {X : Cx} (hu : X.A.units + 64 < cLine) : OpR X (compareOp .Gt) (rGtR X.K) := by
  intro pins s σ H x y v u Q I rx ry h
  obtain ⟨ns, ms, hd, he, q⟩ := h
  obtain ⟨as, r1⟩ := Dp.reads I _ x v hd rx
  obtain ⟨bs, r2⟩ := Dp.reads I _ y u he ry
  have d1 : (PyData.list (ns.map PyData.int)).depth ≤ 2 := by
    rw [PyData.depth, Pre.depth_ints]
    omega
  refine gt_data r1 r2 (by simp [alike, W.alike_ints]) (by simp) (by omega) ?_
  rw [dataLt_list2]
  exact ⟨.bl _, H, I, rfl, q⟩
theorem k_gtR {X : Cx} (K : PySem.W.Frag) (h : X.K = K) (hu : X.A.units + 64 < cLine) : OpR X (compareOp .Gt) (rGtR K) := by subst h; exact op_gtR hu
end My

namespace My
open PySem PySem.Spec PyProof.Rows L2
theorem nil_binds {K : PySem.W.Frag} {fd : FuncData} {ps : List Str} (h : ∃ ds, Vals [] ds ∧ Binds K fd ps ds) : Binds K fd ps [] := by
  obtain ⟨ds, v, b⟩ := h
  cases v
  exact b
def top (i : Nat) : Stmt := PySem.Challenge.pw_wholesound_k51_rows_by_their_numbers.main.body.getD i (.Pass ⟨0, 0, 0, 0⟩)
abbrev s_is_whole : Stmt := top 12
abbrev N_is_whole : List Str := ["value"]
theorem sc_is_whole : FnScope N_is_whole ["value"] (defScope s_is_whole) := ⟨rfl, rfl, rfl, by decide +kernel, rfl, by decide +kernel, by decide +kernel⟩
abbrev s_is_between : Stmt := top 13
abbrev N_is_between : List Str := ["value", "low", "high"]
theorem sc_is_between : FnScope N_is_between ["value", "low", "high"] (defScope s_is_between) := ⟨rfl, rfl, rfl, by decide +kernel, rfl, by decide +kernel, by decide +kernel⟩
abbrev s_check_depth : Stmt := top 14
abbrev N_check_depth : List Str := ["depth", "most"]
theorem sc_check_depth : FnScope N_check_depth ["depth", "most"] (defScope s_check_depth) := ⟨rfl, rfl, rfl, by decide +kernel, rfl, by decide +kernel, by decide +kernel⟩
abbrev s_check_number : Stmt := top 15
abbrev N_check_number : List Str := ["number", "low", "high"]
theorem sc_check_number : FnScope N_check_number ["number", "low", "high"] (defScope s_check_number) := ⟨rfl, rfl, rfl, by decide +kernel, rfl, by decide +kernel, by decide +kernel⟩
abbrev s_is_sample : Stmt := top 17
abbrev N_is_sample : List Str := ["value", "depth"]
theorem sc_is_sample : FnScope N_is_sample ["value", "depth"] (defScope s_is_sample) := ⟨rfl, rfl, rfl, by decide +kernel, rfl, by decide +kernel, by decide +kernel⟩
abbrev s_are_samples : Stmt := top 18
abbrev N_are_samples : List Str := ["value", "depth", "item"]
theorem sc_are_samples : FnScope N_are_samples ["value", "depth"] (defScope s_are_samples) := ⟨rfl, rfl, rfl, by decide +kernel, rfl, by decide +kernel, by decide +kernel⟩
abbrev s_wrapped : Stmt := top 19
abbrev N_wrapped : List Str := ["number", "depth", "half"]
theorem sc_wrapped : FnScope N_wrapped ["number", "depth"] (defScope s_wrapped) := ⟨rfl, rfl, rfl, by decide +kernel, rfl, by decide +kernel, by decide +kernel⟩
abbrev s_folded : Stmt := top 20
abbrev N_folded : List Str := ["number"]
theorem sc_folded : FnScope N_folded ["number"] (defScope s_folded) := ⟨rfl, rfl, rfl, by decide +kernel, rfl, by decide +kernel, by decide +kernel⟩
abbrev s_unfolded : Stmt := top 21
abbrev N_unfolded : List Str := ["number"]
theorem sc_unfolded : FnScope N_unfolded ["number"] (defScope s_unfolded) := ⟨rfl, rfl, rfl, by decide +kernel, rfl, by decide +kernel, by decide +kernel⟩
abbrev s_check_guesser : Stmt := top 28
abbrev N_check_guesser : List Str := ["value"]
theorem sc_check_guesser : FnScope N_check_guesser ["value"] (defScope s_check_guesser) := ⟨rfl, rfl, rfl, by decide +kernel, rfl, by decide +kernel, by decide +kernel⟩
abbrev s_check_row : Stmt := top 29
abbrev N_check_row : List Str := ["depth", "value"]
theorem sc_check_row : FnScope N_check_row ["depth", "value"] (defScope s_check_row) := ⟨rfl, rfl, rfl, by decide +kernel, rfl, by decide +kernel, by decide +kernel⟩
abbrev s_sum_before : Stmt := top 30
abbrev N_sum_before : List Str := ["guesser", "before", "found", "number", "weight"]
theorem sc_sum_before : FnScope N_sum_before ["guesser", "before"] (defScope s_sum_before) := ⟨rfl, rfl, rfl, by decide +kernel, rfl, by decide +kernel, by decide +kernel⟩
abbrev s_guess_behind : Stmt := top 31
abbrev N_guess_behind : List Str := ["guesser", "before"]
theorem sc_guess_behind : FnScope N_guess_behind ["guesser", "before"] (defScope s_guess_behind) := ⟨rfl, rfl, rfl, by decide +kernel, rfl, by decide +kernel, by decide +kernel⟩
abbrev s_told_rests : Stmt := top 32
abbrev N_told_rests : List Str := ["guesser", "row", "many", "found", "place"]
theorem sc_told_rests : FnScope N_told_rests ["guesser", "row"] (defScope s_told_rests) := ⟨rfl, rfl, rfl, by decide +kernel, rfl, by decide +kernel, by decide +kernel⟩
abbrev s_rests : Stmt := top 33
abbrev N_rests : List Str := ["guesser", "depth", "row", "item"]
theorem sc_rests : FnScope N_rests ["guesser", "depth", "row"] (defScope s_rests) := ⟨rfl, rfl, rfl, by decide +kernel, rfl, by decide +kernel, by decide +kernel⟩
abbrev s_row_of : Stmt := top 34
abbrev N_row_of : List Str := ["guesser", "depth", "rests", "many", "found", "rest"]
theorem sc_row_of : FnScope N_row_of ["guesser", "depth", "rests"] (defScope s_row_of) := ⟨rfl, rfl, rfl, by decide +kernel, rfl, by decide +kernel, by decide +kernel⟩
abbrev s_check_width : Stmt := top 37
abbrev N_check_width : List Str := ["width", "depth"]
theorem sc_check_width : FnScope N_check_width ["width", "depth"] (defScope s_check_width) := ⟨rfl, rfl, rfl, by decide +kernel, rfl, by decide +kernel, by decide +kernel⟩
abbrev s_chosen : Stmt := top 38
abbrev N_chosen : List Str := ["many", "few", "found", "turn"]
theorem sc_chosen : FnScope N_chosen ["many", "few"] (defScope s_chosen) := ⟨rfl, rfl, rfl, by decide +kernel, rfl, by decide +kernel, by decide +kernel⟩
abbrev s_sums_below : Stmt := top 39
abbrev N_sums_below : List Str := ["many", "bound", "total", "found", "turn", "part"]
theorem sc_sums_below : FnScope N_sums_below ["many", "bound", "total"] (defScope s_sums_below) := ⟨rfl, rfl, rfl, by decide +kernel, rfl, by decide +kernel, by decide +kernel⟩
abbrev s_how_many : Stmt := top 40
abbrev N_how_many : List Str := ["depth", "width", "many", "size", "total"]
theorem sc_how_many : FnScope N_how_many ["depth", "width", "many", "size"] (defScope s_how_many) := ⟨rfl, rfl, rfl, by decide +kernel, rfl, by decide +kernel, by decide +kernel⟩
abbrev s_tables : Stmt := top 41
abbrev N_tables : List Str := ["many", "bound", "total", "found", "turn", "place", "row", "inner"]
theorem sc_tables : FnScope N_tables ["many", "bound", "total"] (defScope s_tables) := ⟨rfl, rfl, rfl, by decide +kernel, rfl, by decide +kernel, by decide +kernel⟩
abbrev s_row_at : Stmt := top 42
abbrev N_row_at : List Str := ["guesser", "depth", "width", "many", "size", "number", "rest", "bound", "total", "known", "folds", "each", "strokes", "fold"]
theorem sc_row_at : FnScope N_row_at ["guesser", "depth", "width", "many", "size", "number"] (defScope s_row_at) := ⟨rfl, rfl, rfl, by decide +kernel, rfl, by decide +kernel, by decide +kernel⟩
abbrev s_how_many_checked : Stmt := top 43
abbrev N_how_many_checked : List Str := ["depth", "width", "many", "size", "number", "found"]
theorem sc_how_many_checked : FnScope N_how_many_checked ["depth", "width", "many", "size", "number"] (defScope s_how_many_checked) := ⟨rfl, rfl, rfl, by decide +kernel, rfl, by decide +kernel, by decide +kernel⟩
abbrev s_number_of : Stmt := top 44
abbrev N_number_of : List Str := ["guesser", "depth", "width", "row", "folds", "total", "known", "number", "left", "place", "fold", "rest", "fewer", "each", "strokes"]
theorem sc_number_of : FnScope N_number_of ["guesser", "depth", "width", "row"] (defScope s_number_of) := ⟨rfl, rfl, rfl, by decide +kernel, rfl, by decide +kernel, by decide +kernel⟩
abbrev s_law_cell : Stmt := top 46
abbrev N_law_cell : List Str := ["_law_script", "_law_index"]
theorem sc_law_cell : FnScope N_law_cell ["_law_script", "_law_index"] (defScope s_law_cell) := ⟨rfl, rfl, rfl, by decide +kernel, rfl, by decide +kernel, by decide +kernel⟩
abbrev s_law_hash : Stmt := top 47
abbrev N_law_hash : List Str := ["_law_seed", "_law_index", "_law_mixed"]
theorem sc_law_hash : FnScope N_law_hash ["_law_seed", "_law_index"] (defScope s_law_hash) := ⟨rfl, rfl, rfl, by decide +kernel, rfl, by decide +kernel, by decide +kernel⟩
abbrev s_law_generator : Stmt := top 48
abbrev N_law_generator : List Str := ["_law_script", "_law_index", "_law_seed"]
theorem sc_law_generator : FnScope N_law_generator ["_law_script", "_law_index"] (defScope s_law_generator) := ⟨rfl, rfl, rfl, by decide +kernel, rfl, by decide +kernel, by decide +kernel⟩
abbrev s_law_random : Stmt := top 49
abbrev N_law_random : List Str := ["_law_generator_here", "_law_bound", "_law_drawn", "_law_turn"]
theorem sc_law_random : FnScope N_law_random ["_law_generator_here", "_law_bound"] (defScope s_law_random) := ⟨rfl, rfl, rfl, by decide +kernel, rfl, by decide +kernel, by decide +kernel⟩
abbrev s_law_folded : Stmt := top 50
abbrev N_law_folded : List Str := ["_law_number"]
theorem sc_law_folded : FnScope N_law_folded ["_law_number"] (defScope s_law_folded) := ⟨rfl, rfl, rfl, by decide +kernel, rfl, by decide +kernel, by decide +kernel⟩
abbrev s_law_sample : Stmt := top 51
abbrev N_law_sample : List Str := ["_law_generator_here", "_law_depth", "_law_low"]
theorem sc_law_sample : FnScope N_law_sample ["_law_generator_here", "_law_depth"] (defScope s_law_sample) := ⟨rfl, rfl, rfl, by decide +kernel, rfl, by decide +kernel, by decide +kernel⟩
abbrev s_law_row : Stmt := top 52
abbrev N_law_row : List Str := ["_law_generator_here", "_law_depth", "_law_many", "_law_place"]
theorem sc_law_row : FnScope N_law_row ["_law_generator_here", "_law_depth", "_law_many"] (defScope s_law_row) := ⟨rfl, rfl, rfl, by decide +kernel, rfl, by decide +kernel, by decide +kernel⟩
abbrev s_law_weights : Stmt := top 53
abbrev N_law_weights : List Str := ["_law_generator_here", "_law_many", "_law_found", "_law_number", "_law_great", "_law_kind"]
theorem sc_law_weights : FnScope N_law_weights ["_law_generator_here", "_law_many"] (defScope s_law_weights) := ⟨rfl, rfl, rfl, by decide +kernel, rfl, by decide +kernel, by decide +kernel⟩
abbrev s_law_all_rows : Stmt := top 54
abbrev N_law_all_rows : List Str := ["_law_depth", "_law_many", "_law_found", "_law_place", "_law_longer", "_law_row_here", "_law_sample_here"]
theorem sc_law_all_rows : FnScope N_law_all_rows ["_law_depth", "_law_many"] (defScope s_law_all_rows) := ⟨rfl, rfl, rfl, by decide +kernel, rfl, by decide +kernel, by decide +kernel⟩
abbrev s_law_folds : Stmt := top 55
abbrev N_law_folds : List Str := ["_law_guesser", "_law_depth", "_law_row_here", "_law_rest"]
theorem sc_law_folds : FnScope N_law_folds ["_law_guesser", "_law_depth", "_law_row_here"] (defScope s_law_folds) := ⟨rfl, rfl, rfl, by decide +kernel, rfl, by decide +kernel, by decide +kernel⟩
abbrev s_law_size : Stmt := top 56
abbrev N_law_size : List Str := ["_law_folds_here", "_law_width", "_law_fold"]
theorem sc_law_size : FnScope N_law_size ["_law_folds_here", "_law_width"] (defScope s_law_size) := ⟨rfl, rfl, rfl, by decide +kernel, rfl, by decide +kernel, by decide +kernel⟩
abbrev s_law_refused : Stmt := top 57
abbrev N_law_refused : List Str := ["_law_guesser", "_law_depth", "_law_width", "_law_many", "_law_size_here", "_law_number", "_law_caught", "error"]
theorem sc_law_refused : FnScope N_law_refused ["_law_guesser", "_law_depth", "_law_width", "_law_many", "_law_size_here", "_law_number"] (defScope s_law_refused) := ⟨rfl, rfl, rfl, by decide +kernel, rfl, by decide +kernel, by decide +kernel⟩
abbrev s_law_all_right : Stmt := top 58
abbrev N_law_all_right : List Str := ["_law_guesser", "_law_depth", "_law_width", "_law_many", "_law_lists", "_law_row_here", "_law_size_here", "_law_folds_here", "_law_some", "_law_number"]
theorem sc_law_all_right : FnScope N_law_all_right ["_law_guesser", "_law_depth", "_law_width", "_law_many"] (defScope s_law_all_right) := ⟨rfl, rfl, rfl, by decide +kernel, rfl, by decide +kernel, by decide +kernel⟩
abbrev s_law_long_right : Stmt := top 59
abbrev N_law_long_right : List Str := ["_law_generator_here", "_law_guesser", "_law_depth", "_law_width", "_law_row_here", "_law_many", "_law_later", "_law_size_here", "_law_number"]
theorem sc_law_long_right : FnScope N_law_long_right ["_law_generator_here", "_law_guesser"] (defScope s_law_long_right) := ⟨rfl, rfl, rfl, by decide +kernel, rfl, by decide +kernel, by decide +kernel⟩
abbrev s_law : Stmt := top 60
abbrev N_law : List Str := ["_law_script", "_law_index", "_law_generator_here", "_law_guesser", "_law_depth", "_law_width"]
theorem sc_law : FnScope N_law ["_law_script"] (defScope s_law) := ⟨rfl, rfl, rfl, by decide +kernel, rfl, by decide +kernel, by decide +kernel⟩
abbrev s_Guesser___init__ : Stmt := inClass (top 27) 0
abbrev N_Guesser___init__ : List Str := ["self", "weights", "shift", "weight"]
theorem sc_Guesser___init__ : FnScope N_Guesser___init__ ["self", "weights", "shift"] (defScope s_Guesser___init__) := ⟨rfl, rfl, rfl, by decide +kernel, rfl, by decide +kernel, by decide +kernel⟩
abbrev s_InvalidNumber___init__ : Stmt := inClass (top 3) 0
theorem nsc_InvalidNumber : NdefX.NScope ["self", "value", "__class__"] ["self", "value"] ["__class__"] (defScope s_InvalidNumber___init__) := NdefX.nscope_by (by decide +kernel)
theorem sb_InvalidNumber : Sup.SupBody s_InvalidNumber___init__ := ⟨_, _, _, _, _, _, _, _, _, _, rfl, by decide +kernel, fun env => ⟨_, rfl⟩⟩
def fileS : Str := PySem.Challenge.pw_wholesound_k51_rows_by_their_numbers.main.file
/-- what the top has left -/
structure Top (K : PySem.W.Frag) (mg : Str → Option Value) where
  C_Guesser : Addr
  gc_Guesser : mg "Guesser" = some (.ref C_Guesser)
  cl_Guesser : Cls K C_Guesser
  ic_Guesser : C8.InsC K C_Guesser
  na_Guesser_parts : NoAttr K C_Guesser "parts"
  na_Guesser_down : NoAttr K C_Guesser "down"
  f_is_whole : Addr
  fd_is_whole : FuncData
  F_is_whole : FunD K "is_whole" "is_whole" (defArgs s_is_whole) (defBody s_is_whole) (defScope s_is_whole) [] [] f_is_whole fd_is_whole
  b_is_whole : Binds K fd_is_whole ["value"] []
  g_is_whole : mg "is_whole" = some (.ref f_is_whole)
  f_is_between : Addr
  fd_is_between : FuncData
  F_is_between : FunD K "is_between" "is_between" (defArgs s_is_between) (defBody s_is_between) (defScope s_is_between) [] [] f_is_between fd_is_between
  b_is_between : Binds K fd_is_between ["value", "low", "high"] []
  g_is_between : mg "is_between" = some (.ref f_is_between)
  f_check_depth : Addr
  fd_check_depth : FuncData
  F_check_depth : FunD K "check_depth" "check_depth" (defArgs s_check_depth) (defBody s_check_depth) (defScope s_check_depth) [.int 24] [] f_check_depth fd_check_depth
  b_check_depth : Binds K fd_check_depth ["depth", "most"] []
  g_check_depth : mg "check_depth" = some (.ref f_check_depth)
  e0_check_depth : List Value
  v0_check_depth : Vals [.int 24] e0_check_depth
  b0_check_depth : Binds K fd_check_depth ["depth", "most"] e0_check_depth
  f_check_number : Addr
  fd_check_number : FuncData
  F_check_number : FunD K "check_number" "check_number" (defArgs s_check_number) (defBody s_check_number) (defScope s_check_number) [] [] f_check_number fd_check_number
  b_check_number : Binds K fd_check_number ["number", "low", "high"] []
  g_check_number : mg "check_number" = some (.ref f_check_number)
  f_is_sample : Addr
  fd_is_sample : FuncData
  F_is_sample : FunD K "is_sample" "is_sample" (defArgs s_is_sample) (defBody s_is_sample) (defScope s_is_sample) [] [] f_is_sample fd_is_sample
  b_is_sample : Binds K fd_is_sample ["value", "depth"] []
  g_is_sample : mg "is_sample" = some (.ref f_is_sample)
  f_are_samples : Addr
  fd_are_samples : FuncData
  F_are_samples : FunD K "are_samples" "are_samples" (defArgs s_are_samples) (defBody s_are_samples) (defScope s_are_samples) [] [] f_are_samples fd_are_samples
  b_are_samples : Binds K fd_are_samples ["value", "depth"] []
  g_are_samples : mg "are_samples" = some (.ref f_are_samples)
  f_wrapped : Addr
  fd_wrapped : FuncData
  F_wrapped : FunD K "wrapped" "wrapped" (defArgs s_wrapped) (defBody s_wrapped) (defScope s_wrapped) [] [] f_wrapped fd_wrapped
  b_wrapped : Binds K fd_wrapped ["number", "depth"] []
  g_wrapped : mg "wrapped" = some (.ref f_wrapped)
  f_folded : Addr
  fd_folded : FuncData
  F_folded : FunD K "folded" "folded" (defArgs s_folded) (defBody s_folded) (defScope s_folded) [] [] f_folded fd_folded
  b_folded : Binds K fd_folded ["number"] []
  g_folded : mg "folded" = some (.ref f_folded)
  f_unfolded : Addr
  fd_unfolded : FuncData
  F_unfolded : FunD K "unfolded" "unfolded" (defArgs s_unfolded) (defBody s_unfolded) (defScope s_unfolded) [] [] f_unfolded fd_unfolded
  b_unfolded : Binds K fd_unfolded ["number"] []
  g_unfolded : mg "unfolded" = some (.ref f_unfolded)
  f_check_guesser : Addr
  fd_check_guesser : FuncData
  F_check_guesser : FunD K "check_guesser" "check_guesser" (defArgs s_check_guesser) (defBody s_check_guesser) (defScope s_check_guesser) [] [] f_check_guesser fd_check_guesser
  b_check_guesser : Binds K fd_check_guesser ["value"] []
  g_check_guesser : mg "check_guesser" = some (.ref f_check_guesser)
  f_check_row : Addr
  fd_check_row : FuncData
  F_check_row : FunD K "check_row" "check_row" (defArgs s_check_row) (defBody s_check_row) (defScope s_check_row) [] [] f_check_row fd_check_row
  b_check_row : Binds K fd_check_row ["depth", "value"] []
  g_check_row : mg "check_row" = some (.ref f_check_row)
  f_sum_before : Addr
  fd_sum_before : FuncData
  F_sum_before : FunD K "sum_before" "sum_before" (defArgs s_sum_before) (defBody s_sum_before) (defScope s_sum_before) [] [] f_sum_before fd_sum_before
  b_sum_before : Binds K fd_sum_before ["guesser", "before"] []
  g_sum_before : mg "sum_before" = some (.ref f_sum_before)
  f_guess_behind : Addr
  fd_guess_behind : FuncData
  F_guess_behind : FunD K "guess_behind" "guess_behind" (defArgs s_guess_behind) (defBody s_guess_behind) (defScope s_guess_behind) [] [] f_guess_behind fd_guess_behind
  b_guess_behind : Binds K fd_guess_behind ["guesser", "before"] []
  g_guess_behind : mg "guess_behind" = some (.ref f_guess_behind)
  f_told_rests : Addr
  fd_told_rests : FuncData
  F_told_rests : FunD K "told_rests" "told_rests" (defArgs s_told_rests) (defBody s_told_rests) (defScope s_told_rests) [] [] f_told_rests fd_told_rests
  b_told_rests : Binds K fd_told_rests ["guesser", "row"] []
  g_told_rests : mg "told_rests" = some (.ref f_told_rests)
  f_rests : Addr
  fd_rests : FuncData
  F_rests : FunD K "rests" "rests" (defArgs s_rests) (defBody s_rests) (defScope s_rests) [] [] f_rests fd_rests
  b_rests : Binds K fd_rests ["guesser", "depth", "row"] []
  g_rests : mg "rests" = some (.ref f_rests)
  f_row_of : Addr
  fd_row_of : FuncData
  F_row_of : FunD K "row_of" "row_of" (defArgs s_row_of) (defBody s_row_of) (defScope s_row_of) [] [] f_row_of fd_row_of
  b_row_of : Binds K fd_row_of ["guesser", "depth", "rests"] []
  g_row_of : mg "row_of" = some (.ref f_row_of)
  f_check_width : Addr
  fd_check_width : FuncData
  F_check_width : FunD K "check_width" "check_width" (defArgs s_check_width) (defBody s_check_width) (defScope s_check_width) [] [] f_check_width fd_check_width
  b_check_width : Binds K fd_check_width ["width", "depth"] []
  g_check_width : mg "check_width" = some (.ref f_check_width)
  f_chosen : Addr
  fd_chosen : FuncData
  F_chosen : FunD K "chosen" "chosen" (defArgs s_chosen) (defBody s_chosen) (defScope s_chosen) [] [] f_chosen fd_chosen
  b_chosen : Binds K fd_chosen ["many", "few"] []
  g_chosen : mg "chosen" = some (.ref f_chosen)
  f_sums_below : Addr
  fd_sums_below : FuncData
  F_sums_below : FunD K "sums_below" "sums_below" (defArgs s_sums_below) (defBody s_sums_below) (defScope s_sums_below) [] [] f_sums_below fd_sums_below
  b_sums_below : Binds K fd_sums_below ["many", "bound", "total"] []
  g_sums_below : mg "sums_below" = some (.ref f_sums_below)
  f_how_many : Addr
  fd_how_many : FuncData
  F_how_many : FunD K "how_many" "how_many" (defArgs s_how_many) (defBody s_how_many) (defScope s_how_many) [] [] f_how_many fd_how_many
  b_how_many : Binds K fd_how_many ["depth", "width", "many", "size"] []
  g_how_many : mg "how_many" = some (.ref f_how_many)
  f_tables : Addr
  fd_tables : FuncData
  F_tables : FunD K "tables" "tables" (defArgs s_tables) (defBody s_tables) (defScope s_tables) [] [] f_tables fd_tables
  b_tables : Binds K fd_tables ["many", "bound", "total"] []
  g_tables : mg "tables" = some (.ref f_tables)
  f_row_at : Addr
  fd_row_at : FuncData
  F_row_at : FunD K "row_at" "row_at" (defArgs s_row_at) (defBody s_row_at) (defScope s_row_at) [] [] f_row_at fd_row_at
  b_row_at : Binds K fd_row_at ["guesser", "depth", "width", "many", "size", "number"] []
  g_row_at : mg "row_at" = some (.ref f_row_at)
  f_how_many_checked : Addr
  fd_how_many_checked : FuncData
  F_how_many_checked : FunD K "how_many_checked" "how_many_checked" (defArgs s_how_many_checked) (defBody s_how_many_checked) (defScope s_how_many_checked) [] [] f_how_many_checked fd_how_many_checked
  b_how_many_checked : Binds K fd_how_many_checked ["depth", "width", "many", "size", "number"] []
  g_how_many_checked : mg "how_many_checked" = some (.ref f_how_many_checked)
  f_number_of : Addr
  fd_number_of : FuncData
  F_number_of : FunD K "number_of" "number_of" (defArgs s_number_of) (defBody s_number_of) (defScope s_number_of) [] [] f_number_of fd_number_of
  b_number_of : Binds K fd_number_of ["guesser", "depth", "width", "row"] []
  g_number_of : mg "number_of" = some (.ref f_number_of)
  f_law_cell : Addr
  fd_law_cell : FuncData
  F_law_cell : FunD K "_law_cell" "_law_cell" (defArgs s_law_cell) (defBody s_law_cell) (defScope s_law_cell) [] [] f_law_cell fd_law_cell
  b_law_cell : Binds K fd_law_cell ["_law_script", "_law_index"] []
  g_law_cell : mg "_law_cell" = some (.ref f_law_cell)
  f_law_hash : Addr
  fd_law_hash : FuncData
  F_law_hash : FunD K "_law_hash" "_law_hash" (defArgs s_law_hash) (defBody s_law_hash) (defScope s_law_hash) [] [] f_law_hash fd_law_hash
  b_law_hash : Binds K fd_law_hash ["_law_seed", "_law_index"] []
  g_law_hash : mg "_law_hash" = some (.ref f_law_hash)
  f_law_generator : Addr
  fd_law_generator : FuncData
  F_law_generator : FunD K "_law_generator" "_law_generator" (defArgs s_law_generator) (defBody s_law_generator) (defScope s_law_generator) [] [] f_law_generator fd_law_generator
  b_law_generator : Binds K fd_law_generator ["_law_script", "_law_index"] []
  g_law_generator : mg "_law_generator" = some (.ref f_law_generator)
  f_law_random : Addr
  fd_law_random : FuncData
  F_law_random : FunD K "_law_random" "_law_random" (defArgs s_law_random) (defBody s_law_random) (defScope s_law_random) [] [] f_law_random fd_law_random
  b_law_random : Binds K fd_law_random ["_law_generator_here", "_law_bound"] []
  g_law_random : mg "_law_random" = some (.ref f_law_random)
  f_law_folded : Addr
  fd_law_folded : FuncData
  F_law_folded : FunD K "_law_folded" "_law_folded" (defArgs s_law_folded) (defBody s_law_folded) (defScope s_law_folded) [] [] f_law_folded fd_law_folded
  b_law_folded : Binds K fd_law_folded ["_law_number"] []
  g_law_folded : mg "_law_folded" = some (.ref f_law_folded)
  f_law_sample : Addr
  fd_law_sample : FuncData
  F_law_sample : FunD K "_law_sample" "_law_sample" (defArgs s_law_sample) (defBody s_law_sample) (defScope s_law_sample) [] [] f_law_sample fd_law_sample
  b_law_sample : Binds K fd_law_sample ["_law_generator_here", "_law_depth"] []
  g_law_sample : mg "_law_sample" = some (.ref f_law_sample)
  f_law_row : Addr
  fd_law_row : FuncData
  F_law_row : FunD K "_law_row" "_law_row" (defArgs s_law_row) (defBody s_law_row) (defScope s_law_row) [] [] f_law_row fd_law_row
  b_law_row : Binds K fd_law_row ["_law_generator_here", "_law_depth", "_law_many"] []
  g_law_row : mg "_law_row" = some (.ref f_law_row)
  f_law_weights : Addr
  fd_law_weights : FuncData
  F_law_weights : FunD K "_law_weights" "_law_weights" (defArgs s_law_weights) (defBody s_law_weights) (defScope s_law_weights) [] [] f_law_weights fd_law_weights
  b_law_weights : Binds K fd_law_weights ["_law_generator_here", "_law_many"] []
  g_law_weights : mg "_law_weights" = some (.ref f_law_weights)
  f_law_all_rows : Addr
  fd_law_all_rows : FuncData
  F_law_all_rows : FunD K "_law_all_rows" "_law_all_rows" (defArgs s_law_all_rows) (defBody s_law_all_rows) (defScope s_law_all_rows) [] [] f_law_all_rows fd_law_all_rows
  b_law_all_rows : Binds K fd_law_all_rows ["_law_depth", "_law_many"] []
  g_law_all_rows : mg "_law_all_rows" = some (.ref f_law_all_rows)
  f_law_folds : Addr
  fd_law_folds : FuncData
  F_law_folds : FunD K "_law_folds" "_law_folds" (defArgs s_law_folds) (defBody s_law_folds) (defScope s_law_folds) [] [] f_law_folds fd_law_folds
  b_law_folds : Binds K fd_law_folds ["_law_guesser", "_law_depth", "_law_row_here"] []
  g_law_folds : mg "_law_folds" = some (.ref f_law_folds)
  f_law_size : Addr
  fd_law_size : FuncData
  F_law_size : FunD K "_law_size" "_law_size" (defArgs s_law_size) (defBody s_law_size) (defScope s_law_size) [] [] f_law_size fd_law_size
  b_law_size : Binds K fd_law_size ["_law_folds_here", "_law_width"] []
  g_law_size : mg "_law_size" = some (.ref f_law_size)
  f_law_refused : Addr
  fd_law_refused : FuncData
  F_law_refused : FunD K "_law_refused" "_law_refused" (defArgs s_law_refused) (defBody s_law_refused) (defScope s_law_refused) [] [] f_law_refused fd_law_refused
  b_law_refused : Binds K fd_law_refused ["_law_guesser", "_law_depth", "_law_width", "_law_many", "_law_size_here", "_law_number"] []
  g_law_refused : mg "_law_refused" = some (.ref f_law_refused)
  f_law_all_right : Addr
  fd_law_all_right : FuncData
  F_law_all_right : FunD K "_law_all_right" "_law_all_right" (defArgs s_law_all_right) (defBody s_law_all_right) (defScope s_law_all_right) [] [] f_law_all_right fd_law_all_right
  b_law_all_right : Binds K fd_law_all_right ["_law_guesser", "_law_depth", "_law_width", "_law_many"] []
  g_law_all_right : mg "_law_all_right" = some (.ref f_law_all_right)
  f_law_long_right : Addr
  fd_law_long_right : FuncData
  F_law_long_right : FunD K "_law_long_right" "_law_long_right" (defArgs s_law_long_right) (defBody s_law_long_right) (defScope s_law_long_right) [] [] f_law_long_right fd_law_long_right
  b_law_long_right : Binds K fd_law_long_right ["_law_generator_here", "_law_guesser"] []
  g_law_long_right : mg "_law_long_right" = some (.ref f_law_long_right)
  f_law : Addr
  fd_law : FuncData
  F_law : FunD K "law" "law" (defArgs s_law) (defBody s_law) (defScope s_law) [] [] f_law fd_law
  b_law : Binds K fd_law ["_law_script"] []
  g_law : mg "law" = some (.ref f_law)
  f_Guesser___init__ : Addr
  fd_Guesser___init__ : FuncData
  F_Guesser___init__ : FunD K "__init__" "Guesser.__init__" (defArgs s_Guesser___init__) (defBody s_Guesser___init__) (defScope s_Guesser___init__) [] [] f_Guesser___init__ fd_Guesser___init__
  b_Guesser___init__ : Binds K fd_Guesser___init__ ["self", "weights", "shift"] []
  me_Guesser___init__ : Meth K C_Guesser "__init__" f_Guesser___init__
  mk_Guesser : Mk K C_Guesser f_Guesser___init__
  C_InvalidNumber : Addr
  gc_InvalidNumber : mg "InvalidNumber" = some (.ref C_InvalidNumber)
  fi_InvalidNumber : Addr
  fd_InvalidNumber : FuncData
  er_InvalidNumber : ErrC K fileS "InvalidNumber" s_InvalidNumber___init__ C_InvalidNumber fi_InvalidNumber fd_InvalidNumber
  C_SoundError : Addr
  gc_SoundError : mg "SoundError" = some (.ref C_SoundError)
  em_InvalidNumber_SoundError : PySem.W.exmOne K (.ref C_InvalidNumber) (.ref C_SoundError) = some true
  em_InvalidNumber_InvalidNumber : PySem.W.exmOne K (.ref C_InvalidNumber) (.ref C_InvalidNumber) = some true
  ki_InvalidNumber_SoundError : PySem.W.kitOne K (.ref C_InvalidNumber) (.ref C_SoundError) = some true
  ki_InvalidNumber_InvalidNumber : PySem.W.kitOne K (.ref C_InvalidNumber) (.ref C_InvalidNumber) = some true
  kn_InvalidNumber : PySem.W.kitOne K (.type "NoneType") (.ref C_InvalidNumber) = some false
  ei_InvalidNumber : ExcI K C_InvalidNumber
  n_len : mg "len" = none
  n_sum : mg "sum" = none
  n_max : mg "max" = none
  n_min : mg "min" = none
  n_int : mg "int" = none
  n_bool : mg "bool" = none
  n_list : mg "list" = none
  n_range : mg "range" = none
  n_isinstance : mg "isinstance" = none
  n_enumerate : mg "enumerate" = none
  n_sorted : mg "sorted" = none
  n_repr : mg "repr" = none
  n_super : mg "super" = none
  t_MOST_DEPTH_kinds : Tok
  m_MOST_DEPTH_kinds : mg "MOST_DEPTH_kinds" = some (.int 24 t_MOST_DEPTH_kinds)
  t_MOST_ORDER : Tok
  m_MOST_ORDER : mg "MOST_ORDER" = some (.int 8 t_MOST_ORDER)
  t_MOST_WEIGHT : Tok
  m_MOST_WEIGHT : mg "MOST_WEIGHT" = some (.int 32768 t_MOST_WEIGHT)
  t_MOST_SHIFT : Tok
  m_MOST_SHIFT : mg "MOST_SHIFT" = some (.int 15 t_MOST_SHIFT)
  t_MOST_DEPTH_guessers : Tok
  m_MOST_DEPTH_guessers : mg "MOST_DEPTH_guessers" = some (.int 32 t_MOST_DEPTH_guessers)
  t_MOST_MANY : Tok
  m_MOST_MANY : mg "MOST_MANY" = some (.int 200 t_MOST_MANY)
def d_is_whole : He.DefD := ⟨("is_whole", none), "is_whole", "is_whole", defArgs s_is_whole, defBody s_is_whole, defScope s_is_whole, [], []⟩
def d_is_between : He.DefD := ⟨("is_between", none), "is_between", "is_between", defArgs s_is_between, defBody s_is_between, defScope s_is_between, [], []⟩
def d_check_depth : He.DefD := ⟨("check_depth", none), "check_depth", "check_depth", defArgs s_check_depth, defBody s_check_depth, defScope s_check_depth, [.int 24], []⟩
def d_check_number : He.DefD := ⟨("check_number", none), "check_number", "check_number", defArgs s_check_number, defBody s_check_number, defScope s_check_number, [], []⟩
def d_is_sample : He.DefD := ⟨("is_sample", none), "is_sample", "is_sample", defArgs s_is_sample, defBody s_is_sample, defScope s_is_sample, [], []⟩
def d_are_samples : He.DefD := ⟨("are_samples", none), "are_samples", "are_samples", defArgs s_are_samples, defBody s_are_samples, defScope s_are_samples, [], []⟩
def d_wrapped : He.DefD := ⟨("wrapped", none), "wrapped", "wrapped", defArgs s_wrapped, defBody s_wrapped, defScope s_wrapped, [], []⟩
def d_folded : He.DefD := ⟨("folded", none), "folded", "folded", defArgs s_folded, defBody s_folded, defScope s_folded, [], []⟩
def d_unfolded : He.DefD := ⟨("unfolded", none), "unfolded", "unfolded", defArgs s_unfolded, defBody s_unfolded, defScope s_unfolded, [], []⟩
def d_check_guesser : He.DefD := ⟨("check_guesser", none), "check_guesser", "check_guesser", defArgs s_check_guesser, defBody s_check_guesser, defScope s_check_guesser, [], []⟩
def d_check_row : He.DefD := ⟨("check_row", none), "check_row", "check_row", defArgs s_check_row, defBody s_check_row, defScope s_check_row, [], []⟩
def d_sum_before : He.DefD := ⟨("sum_before", none), "sum_before", "sum_before", defArgs s_sum_before, defBody s_sum_before, defScope s_sum_before, [], []⟩
def d_guess_behind : He.DefD := ⟨("guess_behind", none), "guess_behind", "guess_behind", defArgs s_guess_behind, defBody s_guess_behind, defScope s_guess_behind, [], []⟩
def d_told_rests : He.DefD := ⟨("told_rests", none), "told_rests", "told_rests", defArgs s_told_rests, defBody s_told_rests, defScope s_told_rests, [], []⟩
def d_rests : He.DefD := ⟨("rests", none), "rests", "rests", defArgs s_rests, defBody s_rests, defScope s_rests, [], []⟩
def d_row_of : He.DefD := ⟨("row_of", none), "row_of", "row_of", defArgs s_row_of, defBody s_row_of, defScope s_row_of, [], []⟩
def d_check_width : He.DefD := ⟨("check_width", none), "check_width", "check_width", defArgs s_check_width, defBody s_check_width, defScope s_check_width, [], []⟩
def d_chosen : He.DefD := ⟨("chosen", none), "chosen", "chosen", defArgs s_chosen, defBody s_chosen, defScope s_chosen, [], []⟩
def d_sums_below : He.DefD := ⟨("sums_below", none), "sums_below", "sums_below", defArgs s_sums_below, defBody s_sums_below, defScope s_sums_below, [], []⟩
def d_how_many : He.DefD := ⟨("how_many", none), "how_many", "how_many", defArgs s_how_many, defBody s_how_many, defScope s_how_many, [], []⟩
def d_tables : He.DefD := ⟨("tables", none), "tables", "tables", defArgs s_tables, defBody s_tables, defScope s_tables, [], []⟩
def d_row_at : He.DefD := ⟨("row_at", none), "row_at", "row_at", defArgs s_row_at, defBody s_row_at, defScope s_row_at, [], []⟩
def d_how_many_checked : He.DefD := ⟨("how_many_checked", none), "how_many_checked", "how_many_checked", defArgs s_how_many_checked, defBody s_how_many_checked, defScope s_how_many_checked, [], []⟩
def d_number_of : He.DefD := ⟨("number_of", none), "number_of", "number_of", defArgs s_number_of, defBody s_number_of, defScope s_number_of, [], []⟩
def d_law_cell : He.DefD := ⟨("_law_cell", none), "_law_cell", "_law_cell", defArgs s_law_cell, defBody s_law_cell, defScope s_law_cell, [], []⟩
def d_law_hash : He.DefD := ⟨("_law_hash", none), "_law_hash", "_law_hash", defArgs s_law_hash, defBody s_law_hash, defScope s_law_hash, [], []⟩
def d_law_generator : He.DefD := ⟨("_law_generator", none), "_law_generator", "_law_generator", defArgs s_law_generator, defBody s_law_generator, defScope s_law_generator, [], []⟩
def d_law_random : He.DefD := ⟨("_law_random", none), "_law_random", "_law_random", defArgs s_law_random, defBody s_law_random, defScope s_law_random, [], []⟩
def d_law_folded : He.DefD := ⟨("_law_folded", none), "_law_folded", "_law_folded", defArgs s_law_folded, defBody s_law_folded, defScope s_law_folded, [], []⟩
def d_law_sample : He.DefD := ⟨("_law_sample", none), "_law_sample", "_law_sample", defArgs s_law_sample, defBody s_law_sample, defScope s_law_sample, [], []⟩
def d_law_row : He.DefD := ⟨("_law_row", none), "_law_row", "_law_row", defArgs s_law_row, defBody s_law_row, defScope s_law_row, [], []⟩
def d_law_weights : He.DefD := ⟨("_law_weights", none), "_law_weights", "_law_weights", defArgs s_law_weights, defBody s_law_weights, defScope s_law_weights, [], []⟩
def d_law_all_rows : He.DefD := ⟨("_law_all_rows", none), "_law_all_rows", "_law_all_rows", defArgs s_law_all_rows, defBody s_law_all_rows, defScope s_law_all_rows, [], []⟩
def d_law_folds : He.DefD := ⟨("_law_folds", none), "_law_folds", "_law_folds", defArgs s_law_folds, defBody s_law_folds, defScope s_law_folds, [], []⟩
def d_law_size : He.DefD := ⟨("_law_size", none), "_law_size", "_law_size", defArgs s_law_size, defBody s_law_size, defScope s_law_size, [], []⟩
def d_law_refused : He.DefD := ⟨("_law_refused", none), "_law_refused", "_law_refused", defArgs s_law_refused, defBody s_law_refused, defScope s_law_refused, [], []⟩
def d_law_all_right : He.DefD := ⟨("_law_all_right", none), "_law_all_right", "_law_all_right", defArgs s_law_all_right, defBody s_law_all_right, defScope s_law_all_right, [], []⟩
def d_law_long_right : He.DefD := ⟨("_law_long_right", none), "_law_long_right", "_law_long_right", defArgs s_law_long_right, defBody s_law_long_right, defScope s_law_long_right, [], []⟩
def d_law : He.DefD := ⟨("law", none), "law", "law", defArgs s_law, defBody s_law, defScope s_law, [], []⟩
def d_Guesser___init__ : He.DefD := ⟨("Guesser", some "__init__"), "__init__", "Guesser.__init__", defArgs s_Guesser___init__, defBody s_Guesser___init__, defScope s_Guesser___init__, [], []⟩
def fn : List He.DefD := [d_is_whole, d_is_between, d_check_depth, d_check_number, d_is_sample, d_are_samples, d_wrapped, d_folded, d_unfolded, d_check_guesser, d_check_row, d_sum_before, d_guess_behind, d_told_rests, d_rests, d_row_of, d_check_width, d_chosen, d_sums_below, d_how_many, d_tables, d_row_at, d_how_many_checked, d_number_of, d_law_cell, d_law_hash, d_law_generator, d_law_random, d_law_folded, d_law_sample, d_law_row, d_law_weights, d_law_all_rows, d_law_folds, d_law_size, d_law_refused, d_law_all_right, d_law_long_right, d_law, d_Guesser___init__]
def fa0 : List He.Fa := [.glo "is_whole", .glo "is_between", .glo "check_depth", .glo "check_number", .glo "is_sample", .glo "are_samples", .glo "wrapped", .glo "folded", .glo "unfolded", .glo "check_guesser", .glo "check_row", .glo "sum_before", .glo "guess_behind", .glo "told_rests", .glo "rests", .glo "row_of", .glo "check_width", .glo "chosen", .glo "sums_below", .glo "how_many", .glo "tables", .glo "row_at", .glo "how_many_checked", .glo "number_of", .glo "_law_cell", .glo "_law_hash", .glo "_law_generator", .glo "_law_random", .glo "_law_folded", .glo "_law_sample"]
def fa1 : List He.Fa := [.glo "_law_row", .glo "_law_weights", .glo "_law_all_rows", .glo "_law_folds", .glo "_law_size", .glo "_law_refused", .glo "_law_all_right", .glo "_law_long_right", .glo "law", .free "len", .free "sum", .free "max", .free "min", .free "int", .free "bool", .free "list", .free "range", .free "isinstance", .free "enumerate", .free "sorted", .free "repr", .free "super", .int "MOST_DEPTH_kinds" 24, .int "MOST_ORDER" 8, .int "MOST_WEIGHT" 32768, .int "MOST_SHIFT" 15, .int "MOST_DEPTH_guessers" 32, .int "MOST_MANY" 200, .glo "Guesser", .cls "Guesser"]
def fa2 : List He.Fa := [.noat "Guesser" "parts", .noat "Guesser" "down", .mkr "Guesser", .meth "Guesser" "__init__", .glo "InvalidNumber", .glo "SoundError"]
def fa : List He.Fa := fa0 ++ fa1 ++ fa2
/-- isinstance of an own class -/
def insB (K : PySem.W.Frag) (x : Str) : Bool := decide (PySem.W.findIn K (.ref (He.ga K x)) "__class__" = some (some (.builtin "object.__class__"))) && (decide (PySem.W.specialIn K (.builtin "object.__class__") "__get__" = some (some (.builtin "getset_descriptor.__get__"))) && (decide (PySem.W.takesIn K (.builtin "object.__class__") = some true) && (decide (PySem.W.mroIn K (He.ga K x) (.type "object") = some true) && decide (PySem.W.kitOne K (.ref (He.ga K x)) (.ref (He.ga K x)) = some true))))
theorem insB_ok {K : PySem.W.Frag} {x : Str} (cl : Cls K (He.ga K x)) (h : insB K x = true) : C8.InsC K (He.ga K x) := by
  unfold insB at h
  simp only [Bool.and_eq_true, decide_eq_true_eq] at h
  exact ⟨cl, h.1, h.2.1, h.2.2.1, h.2.2.2.1, h.2.2.2.2⟩
def eqB (K : PySem.W.Frag) (x : Str) : Bool := decide (PySem.W.findIn K (.ref (He.ga K x)) "__ne__" = some (some (.builtin "object.__ne__"))) && (decide (PySem.W.subIn K (.ref (He.ga K x)) (.type "object") = some true) && (decide (PySem.W.subIn K (.type "list") (.ref (He.ga K x)) = some false) && (decide (PySem.W.kitOne K (.type "list") (.ref (He.ga K x)) = some false) && (decide (PySem.W.subIn K (.type "tuple") (.ref (He.ga K x)) = some false) && decide (PySem.W.kitOne K (.type "tuple") (.ref (He.ga K x)) = some false)))))
def eqs : List Str := []
def own : List Str := ["Guesser"]
def ex (K : PySem.W.Frag) : Bool := (own.all fun x => insB K x) && eqs.all fun x => eqB K x
abbrev R : PySem.W.OpenRow := PySem.W.OpenLaw.row PySem.Challenge.rw_wholesound_k51_rows_by_their_numbers
def errs : List Str := ["InvalidNumber"]
def ems : List (Str × Str × Bool) := [(("InvalidNumber" : Str), ("SoundError" : Str), true), (("InvalidNumber" : Str), ("InvalidNumber" : Str), true)]
def emB (K : PySem.W.Frag) (z : Str × Str × Bool) : Bool := decide (PySem.W.exmOne K (.ref (He.ga K z.1)) (.ref (He.ga K z.2.1)) = some z.2.2) && (decide (PySem.W.kitOne K (.ref (He.ga K z.1)) (.ref (He.ga K z.2.1)) = some z.2.2) && (decide (PySem.W.kitOne K (.type "NoneType") (.ref (He.ga K z.2.1)) = some false) && (decide (PySem.W.findIn K (.ref (He.ga K z.1)) "__class__" = some (some (.builtin "object.__class__"))) && (decide (PySem.W.specialIn K (.builtin "object.__class__") "__get__" = some (some (.builtin "getset_descriptor.__get__"))) && (decide (PySem.W.takesIn K (.builtin "object.__class__") = some true) && (decide (PySem.W.mroIn K (He.ga K z.1) (.type "object") = some true)))))))
theorem emB_ok {K : PySem.W.Frag} {z : Str × Str × Bool} (h : emB K z = true) : PySem.W.exmOne K (.ref (He.ga K z.1)) (.ref (He.ga K z.2.1)) = some z.2.2 ∧ PySem.W.kitOne K (.ref (He.ga K z.1)) (.ref (He.ga K z.2.1)) = some z.2.2 ∧ PySem.W.kitOne K (.type "NoneType") (.ref (He.ga K z.2.1)) = some false ∧ PySem.W.findIn K (.ref (He.ga K z.1)) "__class__" = some (some (.builtin "object.__class__")) ∧ PySem.W.specialIn K (.builtin "object.__class__") "__get__" = some (some (.builtin "getset_descriptor.__get__")) ∧ PySem.W.takesIn K (.builtin "object.__class__") = some true ∧ PySem.W.mroIn K (He.ga K z.1) (.type "object") = some true := by
  unfold emB at h
  simp only [Bool.and_eq_true, decide_eq_true_eq] at h
  exact h
def erV : List ErW := [some (("__init__" : Str), ("InvalidNumber" : Str) ++ (".__init__" : Str), defArgs s_InvalidNumber___init__, FuncBody.stmts (defBody s_InvalidNumber___init__), defScope s_InvalidNumber___init__, mainGlobals, builtinsNs)]
def exP (K : PySem.W.Frag) : Bool := ex K && ((errs.all fun z => errB K fileS z) && ems.all fun z => emB K z)
def exW (K : PySem.W.Frag) : List ErW := errs.map fun z => erW K z
abbrev Al : Type := He.AlD × Bool × List ErW
def frK (g : Addr → Option Obj) : PySem.W.Frag := He.frG g (cStatics :: He.asD g 5)
def obsG (g : Addr → Option Obj) : Al := (He.obsD fa fn (frK g), exP (frK g), exW (frK g))
def Says (K : PySem.W.Frag) : Prop := He.SaysD fa fn K ∧ ex K = true ∧ (∀ z ∈ errs, errB K fileS z = true) ∧ (∀ z ∈ ems, emB K z = true) ∧ exW K = erV
theorem says_of {K : PySem.W.Frag} (e : (He.obsD fa fn K, exP K, exW K) = ((He.valD fn, true, erV) : Al)) : Says K := by
  have e1 := congrArg Prod.fst e
  have e2 := congrArg (fun z : Al => z.2.1) e
  have e3 := congrArg (fun z : Al => z.2.2) e
  have e4 : ex K = true ∧ ((errs.all fun z => errB K fileS z) && ems.all fun z => emB K z) = true := Bool.and_eq_true_iff.mp (show (ex K && ((errs.all fun z => errB K fileS z) && ems.all fun z => emB K z)) = true from e2)
  have e5 : (errs.all fun z => errB K fileS z) = true ∧ (ems.all fun z => emB K z) = true := Bool.and_eq_true_iff.mp e4.2
  exact ⟨e1, e4.1, List.all_eq_true.mp e5.1, List.all_eq_true.mp e5.2, e3⟩
theorem erV_at {K : PySem.W.Frag} {ps : List Str} {vs : List ErW} (e : (ps.map fun z => erW K z) = vs) (i : Nat) {z : Str} {v : ErW} (hz : ps[i]? = some z) (hv : vs[i]? = some v) : erW K z = v := by
  rw [← e, List.getElem?_map, hz] at hv
  exact Option.some.inj hv
def hk : PySem.W.Hook where
  α := Al
  obs := fun s => obsG s.heap.get?
  val := fun _ => (He.valD fn, true, erV)
  says := fun _ h => ∃ K : PySem.W.Frag, K.In h ∧ Says K
  of := fun _ _ e => ⟨_, He.frG_in, says_of e⟩
  keeps := fun _ _ _ ⟨K, hK, c⟩ k => ⟨K, PySem.W.Frag.In.keeps hK k, c⟩
def ob (s : PySem.W.SharedT) : Al := obsG (HandSHeadRun.getT s)
theorem ob_eq (s : PySem.W.SharedT) : ob s = hk.obs s.abs := by
  have e : HandSHeadRun.getT s = s.abs.heap.get? := funext (HandSHeadRun.getT_eq s)
  show obsG (HandSHeadRun.getT s) = obsG s.abs.heap.get?
  rw [e]
def loose0 : List PySem.Str := ["_wall", "SoundError", "InvalidNumber", "InvalidDepth", "InvalidList", "InvalidItem", "InvalidRow", "InvalidGuesser", "InvalidWidth", "MOST_DEPTH_kinds", "is_whole", "is_between", "check_depth", "check_number", "is_sample", "are_samples", "wrapped", "folded", "unfolded", "MOST_ORDER", "MOST_WEIGHT", "MOST_SHIFT", "MOST_DEPTH_guessers", "Guesser", "check_guesser", "check_row", "sum_before", "guess_behind", "told_rests", "rests"]
def loose1 : List PySem.Str := ["row_of", "MOST_MANY", "check_width", "chosen", "sums_below", "how_many", "tables", "row_at", "how_many_checked", "number_of", "_law_cell", "_law_hash", "_law_generator", "_law_random", "_law_folded", "_law_sample", "_law_row", "_law_weights", "_law_all_rows", "_law_folds", "_law_size", "_law_refused", "_law_all_right", "_law_long_right"]
abbrev loose : List PySem.Str := loose0 ++ loose1
theorem run (w : World) : HandSHeadRun.RunEq R (PySem.W.view R.prog [60]) hk ob 8000 loose w := by
  intro os
  kernel_rfl
noncomputable def top_mk {K : PySem.W.Frag} {h : Heap} {mg : Str → Option Value} (X : K.In h) (G : h.Ns mainGlobals mg) (c : Says K) : Top K mg :=
  let p0 := c.1.def_ 0 (d := d_is_whole) rfl
  let p1 := c.1.def_ 1 (d := d_is_between) rfl
  let p2 := c.1.def_ 2 (d := d_check_depth) rfl
  let p3 := c.1.def_ 3 (d := d_check_number) rfl
  let p4 := c.1.def_ 4 (d := d_is_sample) rfl
  let p5 := c.1.def_ 5 (d := d_are_samples) rfl
  let p6 := c.1.def_ 6 (d := d_wrapped) rfl
  let p7 := c.1.def_ 7 (d := d_folded) rfl
  let p8 := c.1.def_ 8 (d := d_unfolded) rfl
  let p9 := c.1.def_ 9 (d := d_check_guesser) rfl
  let p10 := c.1.def_ 10 (d := d_check_row) rfl
  let p11 := c.1.def_ 11 (d := d_sum_before) rfl
  let p12 := c.1.def_ 12 (d := d_guess_behind) rfl
  let p13 := c.1.def_ 13 (d := d_told_rests) rfl
  let p14 := c.1.def_ 14 (d := d_rests) rfl
  let p15 := c.1.def_ 15 (d := d_row_of) rfl
  let p16 := c.1.def_ 16 (d := d_check_width) rfl
  let p17 := c.1.def_ 17 (d := d_chosen) rfl
  let p18 := c.1.def_ 18 (d := d_sums_below) rfl
  let p19 := c.1.def_ 19 (d := d_how_many) rfl
  let p20 := c.1.def_ 20 (d := d_tables) rfl
  let p21 := c.1.def_ 21 (d := d_row_at) rfl
  let p22 := c.1.def_ 22 (d := d_how_many_checked) rfl
  let p23 := c.1.def_ 23 (d := d_number_of) rfl
  let p24 := c.1.def_ 24 (d := d_law_cell) rfl
  let p25 := c.1.def_ 25 (d := d_law_hash) rfl
  let p26 := c.1.def_ 26 (d := d_law_generator) rfl
  let p27 := c.1.def_ 27 (d := d_law_random) rfl
  let p28 := c.1.def_ 28 (d := d_law_folded) rfl
  let p29 := c.1.def_ 29 (d := d_law_sample) rfl
  let p30 := c.1.def_ 30 (d := d_law_row) rfl
  let p31 := c.1.def_ 31 (d := d_law_weights) rfl
  let p32 := c.1.def_ 32 (d := d_law_all_rows) rfl
  let p33 := c.1.def_ 33 (d := d_law_folds) rfl
  let p34 := c.1.def_ 34 (d := d_law_size) rfl
  let p35 := c.1.def_ 35 (d := d_law_refused) rfl
  let p36 := c.1.def_ 36 (d := d_law_all_right) rfl
  let p37 := c.1.def_ 37 (d := d_law_long_right) rfl
  let p38 := c.1.def_ 38 (d := d_law) rfl
  let p39 := c.1.def_ 39 (d := d_Guesser___init__) rfl
  let q0 := He.int_ok X G (c.1.fact 52 (f := .int "MOST_DEPTH_kinds" 24) rfl)
  let q1 := He.int_ok X G (c.1.fact 53 (f := .int "MOST_ORDER" 8) rfl)
  let q2 := He.int_ok X G (c.1.fact 54 (f := .int "MOST_WEIGHT" 32768) rfl)
  let q3 := He.int_ok X G (c.1.fact 55 (f := .int "MOST_SHIFT" 15) rfl)
  let q4 := He.int_ok X G (c.1.fact 56 (f := .int "MOST_DEPTH_guessers" 32) rfl)
  let q5 := He.int_ok X G (c.1.fact 57 (f := .int "MOST_MANY" 200) rfl)
  let er0 := err_ok (K := K) (file := fileS) (x := "InvalidNumber") (st := s_InvalidNumber___init__) (c.2.2.1 "InvalidNumber" (by decide +kernel)) (erV_at c.2.2.2.2 0 (z := "InvalidNumber") rfl rfl) (fun _ _ _ _ _ _ _ _ us its h1 h2 => match us, its, h1, h2 with | [_, _], [_], _, _ => ⟨_, rfl, rfl⟩)
  { C_InvalidNumber := _, gc_InvalidNumber := He.glo_ok X G (c.1.fact 64 (f := .glo "InvalidNumber") rfl), fi_InvalidNumber := _, fd_InvalidNumber := er0.choose, er_InvalidNumber := er0.choose_spec,
    C_SoundError := _, gc_SoundError := He.glo_ok X G (c.1.fact 65 (f := .glo "SoundError") rfl),
    em_InvalidNumber_SoundError := (emB_ok (c.2.2.2.1 ("InvalidNumber", "SoundError", true) (by decide +kernel))).1, ki_InvalidNumber_SoundError := (emB_ok (c.2.2.2.1 ("InvalidNumber", "SoundError", true) (by decide +kernel))).2.1,
    em_InvalidNumber_InvalidNumber := (emB_ok (c.2.2.2.1 ("InvalidNumber", "InvalidNumber", true) (by decide +kernel))).1, ki_InvalidNumber_InvalidNumber := (emB_ok (c.2.2.2.1 ("InvalidNumber", "InvalidNumber", true) (by decide +kernel))).2.1,
    kn_InvalidNumber := (emB_ok (c.2.2.2.1 ("InvalidNumber", "InvalidNumber", true) (by decide +kernel))).2.2.1,
    ei_InvalidNumber := ⟨(er0.choose_spec).xf, (emB_ok (c.2.2.2.1 ("InvalidNumber", "SoundError", true) (by decide +kernel))).2.2.2.1, (emB_ok (c.2.2.2.1 ("InvalidNumber", "SoundError", true) (by decide +kernel))).2.2.2.2.1, (emB_ok (c.2.2.2.1 ("InvalidNumber", "SoundError", true) (by decide +kernel))).2.2.2.2.2.1, (emB_ok (c.2.2.2.1 ("InvalidNumber", "SoundError", true) (by decide +kernel))).2.2.2.2.2.2⟩,
    C_Guesser := _, gc_Guesser := He.glo_ok X G (c.1.fact 58 (f := .glo "Guesser") rfl), cl_Guesser := He.cls_ok (c.1.fact 59 (f := .cls "Guesser") rfl), ic_Guesser := insB_ok (x := "Guesser") (He.cls_ok (c.1.fact 59 (f := .cls "Guesser") rfl)) (List.all_eq_true.mp (Bool.and_eq_true_iff.mp c.2.1).1 "Guesser" (by decide +kernel)),
    na_Guesser_parts := He.noat_ok (c.1.fact 60 (f := .noat "Guesser" "parts") rfl),
    na_Guesser_down := He.noat_ok (c.1.fact 61 (f := .noat "Guesser" "down") rfl),
    f_is_whole := _, fd_is_whole := p0.choose, F_is_whole := p0.choose_spec, b_is_whole := p0.choose_spec.bindsN fun _ _ _ _ _ _ us hl => match us, hl with | [_], _ => rfl, g_is_whole := He.glo_ok X G (c.1.fact 0 (f := .glo "is_whole") rfl),
    f_is_between := _, fd_is_between := p1.choose, F_is_between := p1.choose_spec, b_is_between := p1.choose_spec.bindsN fun _ _ _ _ _ _ us hl => match us, hl with | [_, _, _], _ => rfl, g_is_between := He.glo_ok X G (c.1.fact 1 (f := .glo "is_between") rfl),
    f_check_depth := _, fd_check_depth := p2.choose, F_check_depth := p2.choose_spec, b_check_depth := nil_binds (p2.choose_spec.binds1 (ps := ["depth", "most"]) 2 1 (by simp [He.DefD.dvs, d_check_depth]) rfl fun _ _ _ _ _ _ _ us its h1 h2 => match us, its, h1, h2 with | [_, _], [_], _, _ => ⟨_, rfl, rfl⟩), e0_check_depth := (p2.choose_spec.binds1 (ps := ["depth", "most"]) 1 0 (by simp [He.DefD.dvs, d_check_depth]) rfl fun _ _ _ _ _ _ _ us its h1 h2 => match us, its, h1, h2 with | [_], [_], _, _ => ⟨_, rfl, rfl⟩).choose, v0_check_depth := (p2.choose_spec.binds1 (ps := ["depth", "most"]) 1 0 (by simp [He.DefD.dvs, d_check_depth]) rfl fun _ _ _ _ _ _ _ us its h1 h2 => match us, its, h1, h2 with | [_], [_], _, _ => ⟨_, rfl, rfl⟩).choose_spec.1, b0_check_depth := (p2.choose_spec.binds1 (ps := ["depth", "most"]) 1 0 (by simp [He.DefD.dvs, d_check_depth]) rfl fun _ _ _ _ _ _ _ us its h1 h2 => match us, its, h1, h2 with | [_], [_], _, _ => ⟨_, rfl, rfl⟩).choose_spec.2, g_check_depth := He.glo_ok X G (c.1.fact 2 (f := .glo "check_depth") rfl),
    f_check_number := _, fd_check_number := p3.choose, F_check_number := p3.choose_spec, b_check_number := p3.choose_spec.bindsN fun _ _ _ _ _ _ us hl => match us, hl with | [_, _, _], _ => rfl, g_check_number := He.glo_ok X G (c.1.fact 3 (f := .glo "check_number") rfl),
    f_is_sample := _, fd_is_sample := p4.choose, F_is_sample := p4.choose_spec, b_is_sample := p4.choose_spec.bindsN fun _ _ _ _ _ _ us hl => match us, hl with | [_, _], _ => rfl, g_is_sample := He.glo_ok X G (c.1.fact 4 (f := .glo "is_sample") rfl),
    f_are_samples := _, fd_are_samples := p5.choose, F_are_samples := p5.choose_spec, b_are_samples := p5.choose_spec.bindsN fun _ _ _ _ _ _ us hl => match us, hl with | [_, _], _ => rfl, g_are_samples := He.glo_ok X G (c.1.fact 5 (f := .glo "are_samples") rfl),
    f_wrapped := _, fd_wrapped := p6.choose, F_wrapped := p6.choose_spec, b_wrapped := p6.choose_spec.bindsN fun _ _ _ _ _ _ us hl => match us, hl with | [_, _], _ => rfl, g_wrapped := He.glo_ok X G (c.1.fact 6 (f := .glo "wrapped") rfl),
    f_folded := _, fd_folded := p7.choose, F_folded := p7.choose_spec, b_folded := p7.choose_spec.bindsN fun _ _ _ _ _ _ us hl => match us, hl with | [_], _ => rfl, g_folded := He.glo_ok X G (c.1.fact 7 (f := .glo "folded") rfl),
    f_unfolded := _, fd_unfolded := p8.choose, F_unfolded := p8.choose_spec, b_unfolded := p8.choose_spec.bindsN fun _ _ _ _ _ _ us hl => match us, hl with | [_], _ => rfl, g_unfolded := He.glo_ok X G (c.1.fact 8 (f := .glo "unfolded") rfl),
    f_check_guesser := _, fd_check_guesser := p9.choose, F_check_guesser := p9.choose_spec, b_check_guesser := p9.choose_spec.bindsN fun _ _ _ _ _ _ us hl => match us, hl with | [_], _ => rfl, g_check_guesser := He.glo_ok X G (c.1.fact 9 (f := .glo "check_guesser") rfl),
    f_check_row := _, fd_check_row := p10.choose, F_check_row := p10.choose_spec, b_check_row := p10.choose_spec.bindsN fun _ _ _ _ _ _ us hl => match us, hl with | [_, _], _ => rfl, g_check_row := He.glo_ok X G (c.1.fact 10 (f := .glo "check_row") rfl),
    f_sum_before := _, fd_sum_before := p11.choose, F_sum_before := p11.choose_spec, b_sum_before := p11.choose_spec.bindsN fun _ _ _ _ _ _ us hl => match us, hl with | [_, _], _ => rfl, g_sum_before := He.glo_ok X G (c.1.fact 11 (f := .glo "sum_before") rfl),
    f_guess_behind := _, fd_guess_behind := p12.choose, F_guess_behind := p12.choose_spec, b_guess_behind := p12.choose_spec.bindsN fun _ _ _ _ _ _ us hl => match us, hl with | [_, _], _ => rfl, g_guess_behind := He.glo_ok X G (c.1.fact 12 (f := .glo "guess_behind") rfl),
    f_told_rests := _, fd_told_rests := p13.choose, F_told_rests := p13.choose_spec, b_told_rests := p13.choose_spec.bindsN fun _ _ _ _ _ _ us hl => match us, hl with | [_, _], _ => rfl, g_told_rests := He.glo_ok X G (c.1.fact 13 (f := .glo "told_rests") rfl),
    f_rests := _, fd_rests := p14.choose, F_rests := p14.choose_spec, b_rests := p14.choose_spec.bindsN fun _ _ _ _ _ _ us hl => match us, hl with | [_, _, _], _ => rfl, g_rests := He.glo_ok X G (c.1.fact 14 (f := .glo "rests") rfl),
    f_row_of := _, fd_row_of := p15.choose, F_row_of := p15.choose_spec, b_row_of := p15.choose_spec.bindsN fun _ _ _ _ _ _ us hl => match us, hl with | [_, _, _], _ => rfl, g_row_of := He.glo_ok X G (c.1.fact 15 (f := .glo "row_of") rfl),
    f_check_width := _, fd_check_width := p16.choose, F_check_width := p16.choose_spec, b_check_width := p16.choose_spec.bindsN fun _ _ _ _ _ _ us hl => match us, hl with | [_, _], _ => rfl, g_check_width := He.glo_ok X G (c.1.fact 16 (f := .glo "check_width") rfl),
    f_chosen := _, fd_chosen := p17.choose, F_chosen := p17.choose_spec, b_chosen := p17.choose_spec.bindsN fun _ _ _ _ _ _ us hl => match us, hl with | [_, _], _ => rfl, g_chosen := He.glo_ok X G (c.1.fact 17 (f := .glo "chosen") rfl),
    f_sums_below := _, fd_sums_below := p18.choose, F_sums_below := p18.choose_spec, b_sums_below := p18.choose_spec.bindsN fun _ _ _ _ _ _ us hl => match us, hl with | [_, _, _], _ => rfl, g_sums_below := He.glo_ok X G (c.1.fact 18 (f := .glo "sums_below") rfl),
    f_how_many := _, fd_how_many := p19.choose, F_how_many := p19.choose_spec, b_how_many := p19.choose_spec.bindsN fun _ _ _ _ _ _ us hl => match us, hl with | [_, _, _, _], _ => rfl, g_how_many := He.glo_ok X G (c.1.fact 19 (f := .glo "how_many") rfl),
    f_tables := _, fd_tables := p20.choose, F_tables := p20.choose_spec, b_tables := p20.choose_spec.bindsN fun _ _ _ _ _ _ us hl => match us, hl with | [_, _, _], _ => rfl, g_tables := He.glo_ok X G (c.1.fact 20 (f := .glo "tables") rfl),
    f_row_at := _, fd_row_at := p21.choose, F_row_at := p21.choose_spec, b_row_at := p21.choose_spec.bindsN fun _ _ _ _ _ _ us hl => match us, hl with | [_, _, _, _, _, _], _ => rfl, g_row_at := He.glo_ok X G (c.1.fact 21 (f := .glo "row_at") rfl),
    f_how_many_checked := _, fd_how_many_checked := p22.choose, F_how_many_checked := p22.choose_spec, b_how_many_checked := p22.choose_spec.bindsN fun _ _ _ _ _ _ us hl => match us, hl with | [_, _, _, _, _], _ => rfl, g_how_many_checked := He.glo_ok X G (c.1.fact 22 (f := .glo "how_many_checked") rfl),
    f_number_of := _, fd_number_of := p23.choose, F_number_of := p23.choose_spec, b_number_of := p23.choose_spec.bindsN fun _ _ _ _ _ _ us hl => match us, hl with | [_, _, _, _], _ => rfl, g_number_of := He.glo_ok X G (c.1.fact 23 (f := .glo "number_of") rfl),
    f_law_cell := _, fd_law_cell := p24.choose, F_law_cell := p24.choose_spec, b_law_cell := p24.choose_spec.bindsN fun _ _ _ _ _ _ us hl => match us, hl with | [_, _], _ => rfl, g_law_cell := He.glo_ok X G (c.1.fact 24 (f := .glo "_law_cell") rfl),
    f_law_hash := _, fd_law_hash := p25.choose, F_law_hash := p25.choose_spec, b_law_hash := p25.choose_spec.bindsN fun _ _ _ _ _ _ us hl => match us, hl with | [_, _], _ => rfl, g_law_hash := He.glo_ok X G (c.1.fact 25 (f := .glo "_law_hash") rfl),
    f_law_generator := _, fd_law_generator := p26.choose, F_law_generator := p26.choose_spec, b_law_generator := p26.choose_spec.bindsN fun _ _ _ _ _ _ us hl => match us, hl with | [_, _], _ => rfl, g_law_generator := He.glo_ok X G (c.1.fact 26 (f := .glo "_law_generator") rfl),
    f_law_random := _, fd_law_random := p27.choose, F_law_random := p27.choose_spec, b_law_random := p27.choose_spec.bindsN fun _ _ _ _ _ _ us hl => match us, hl with | [_, _], _ => rfl, g_law_random := He.glo_ok X G (c.1.fact 27 (f := .glo "_law_random") rfl),
    f_law_folded := _, fd_law_folded := p28.choose, F_law_folded := p28.choose_spec, b_law_folded := p28.choose_spec.bindsN fun _ _ _ _ _ _ us hl => match us, hl with | [_], _ => rfl, g_law_folded := He.glo_ok X G (c.1.fact 28 (f := .glo "_law_folded") rfl),
    f_law_sample := _, fd_law_sample := p29.choose, F_law_sample := p29.choose_spec, b_law_sample := p29.choose_spec.bindsN fun _ _ _ _ _ _ us hl => match us, hl with | [_, _], _ => rfl, g_law_sample := He.glo_ok X G (c.1.fact 29 (f := .glo "_law_sample") rfl),
    f_law_row := _, fd_law_row := p30.choose, F_law_row := p30.choose_spec, b_law_row := p30.choose_spec.bindsN fun _ _ _ _ _ _ us hl => match us, hl with | [_, _, _], _ => rfl, g_law_row := He.glo_ok X G (c.1.fact 30 (f := .glo "_law_row") rfl),
    f_law_weights := _, fd_law_weights := p31.choose, F_law_weights := p31.choose_spec, b_law_weights := p31.choose_spec.bindsN fun _ _ _ _ _ _ us hl => match us, hl with | [_, _], _ => rfl, g_law_weights := He.glo_ok X G (c.1.fact 31 (f := .glo "_law_weights") rfl),
    f_law_all_rows := _, fd_law_all_rows := p32.choose, F_law_all_rows := p32.choose_spec, b_law_all_rows := p32.choose_spec.bindsN fun _ _ _ _ _ _ us hl => match us, hl with | [_, _], _ => rfl, g_law_all_rows := He.glo_ok X G (c.1.fact 32 (f := .glo "_law_all_rows") rfl),
    f_law_folds := _, fd_law_folds := p33.choose, F_law_folds := p33.choose_spec, b_law_folds := p33.choose_spec.bindsN fun _ _ _ _ _ _ us hl => match us, hl with | [_, _, _], _ => rfl, g_law_folds := He.glo_ok X G (c.1.fact 33 (f := .glo "_law_folds") rfl),
    f_law_size := _, fd_law_size := p34.choose, F_law_size := p34.choose_spec, b_law_size := p34.choose_spec.bindsN fun _ _ _ _ _ _ us hl => match us, hl with | [_, _], _ => rfl, g_law_size := He.glo_ok X G (c.1.fact 34 (f := .glo "_law_size") rfl),
    f_law_refused := _, fd_law_refused := p35.choose, F_law_refused := p35.choose_spec, b_law_refused := p35.choose_spec.bindsN fun _ _ _ _ _ _ us hl => match us, hl with | [_, _, _, _, _, _], _ => rfl, g_law_refused := He.glo_ok X G (c.1.fact 35 (f := .glo "_law_refused") rfl),
    f_law_all_right := _, fd_law_all_right := p36.choose, F_law_all_right := p36.choose_spec, b_law_all_right := p36.choose_spec.bindsN fun _ _ _ _ _ _ us hl => match us, hl with | [_, _, _, _], _ => rfl, g_law_all_right := He.glo_ok X G (c.1.fact 36 (f := .glo "_law_all_right") rfl),
    f_law_long_right := _, fd_law_long_right := p37.choose, F_law_long_right := p37.choose_spec, b_law_long_right := p37.choose_spec.bindsN fun _ _ _ _ _ _ us hl => match us, hl with | [_, _], _ => rfl, g_law_long_right := He.glo_ok X G (c.1.fact 37 (f := .glo "_law_long_right") rfl),
    f_law := _, fd_law := p38.choose, F_law := p38.choose_spec, b_law := p38.choose_spec.bindsN fun _ _ _ _ _ _ us hl => match us, hl with | [_], _ => rfl, g_law := He.glo_ok X G (c.1.fact 38 (f := .glo "law") rfl),
    f_Guesser___init__ := _, fd_Guesser___init__ := p39.choose, F_Guesser___init__ := p39.choose_spec, b_Guesser___init__ := p39.choose_spec.bindsN fun _ _ _ _ _ _ us hl => match us, hl with | [_, _, _], _ => rfl, me_Guesser___init__ := He.meth_ok (c.1.fact 63 (f := .meth "Guesser" "__init__") rfl), mk_Guesser := He.mkr_ok (c.1.fact 62 (f := .mkr "Guesser") rfl),
    n_len := He.free_ok X G (c.1.fact 39 (f := .free "len") rfl),
    n_sum := He.free_ok X G (c.1.fact 40 (f := .free "sum") rfl),
    n_max := He.free_ok X G (c.1.fact 41 (f := .free "max") rfl),
    n_min := He.free_ok X G (c.1.fact 42 (f := .free "min") rfl),
    n_int := He.free_ok X G (c.1.fact 43 (f := .free "int") rfl),
    n_bool := He.free_ok X G (c.1.fact 44 (f := .free "bool") rfl),
    n_list := He.free_ok X G (c.1.fact 45 (f := .free "list") rfl),
    n_range := He.free_ok X G (c.1.fact 46 (f := .free "range") rfl),
    n_isinstance := He.free_ok X G (c.1.fact 47 (f := .free "isinstance") rfl),
    n_enumerate := He.free_ok X G (c.1.fact 48 (f := .free "enumerate") rfl),
    n_sorted := He.free_ok X G (c.1.fact 49 (f := .free "sorted") rfl),
    n_repr := He.free_ok X G (c.1.fact 50 (f := .free "repr") rfl),
    n_super := He.free_ok X G (c.1.fact 51 (f := .free "super") rfl),
    t_MOST_DEPTH_kinds := q0.choose, m_MOST_DEPTH_kinds := q0.choose_spec,
    t_MOST_ORDER := q1.choose, m_MOST_ORDER := q1.choose_spec,
    t_MOST_WEIGHT := q2.choose, m_MOST_WEIGHT := q2.choose_spec,
    t_MOST_SHIFT := q3.choose, m_MOST_SHIFT := q3.choose_spec,
    t_MOST_DEPTH_guessers := q4.choose, m_MOST_DEPTH_guessers := q4.choose_spec,
    t_MOST_MANY := q5.choose, m_MOST_MANY := q5.choose_spec }
theorem G_InvalidNumber___init__ {P : Program} {w : World} {K : PySem.W.Frag} {mg : Str → Option Value} {base : Heap} {CX : CXT} [Sup.PF P fileS] (T : Top K mg) : FnOk P w K mg base CX 1 T.fi_InvalidNumber T.fd_InvalidNumber ["self", "value"] (Sup.sp_exc_init T.C_InvalidNumber) := Sup.fn_sup nsc_InvalidNumber (by decide +kernel) sb_InvalidNumber T.er_InvalidNumber.sup T.n_super
end My

namespace My
open PySem PySem.Spec PyProof.Rows L2 Pre
section
variable {P : Program} {w : World} {K : PySem.W.Frag} {mg : Str → Option Value} {base : Heap}
/-! ### is_whole, is_between, of whole numbers -/
def sp_is_whole : Sp := fun vs H Q _ => ∃ i : Int, vs = [.int i] ∧ Q (.bl true) H
theorem G_is_whole (T : Top K mg) : FnOk P w K mg base CX0 1 T.f_is_whole T.fd_is_whole ["value"] sp_is_whole := by
  refine T.F_is_whole.ok sc_is_whole (fun vs H Q E h => by obtain ⟨i, rfl, _⟩ := h; rfl) (fun cdv A outer s H vs Q E hr h => ?_)
  obtain ⟨i, rfl, q⟩ := h
  refine ⟨_, PSs.nox (pss_one (ps_ret (pe_and (pe_callB (k_isi K rfl) (by rfl) T.n_isinstance (by decide +kernel) (pa_cons (pv 0) (pa_cons (pe_bltn (v := .ty "int") (by rfl) T.n_int (by decide +kernel) rfl) pa_nil))) (pe_one (pe_not (pe_callB (k_isi K rfl) (by rfl) T.n_isinstance (by decide +kernel) (pa_cons (pv 0) (pa_cons (pe_bltn (v := .ty "bool") (by rfl) T.n_bool (by decide +kernel) rfl) pa_nil)))))))), ?_⟩
  refine ⟨_, rfl, _, _, _, _, true, rfl, .ty _, .base (.int i), kit_ty (by decide +kernel), true, rfl, iteT ?_⟩
  exact ⟨_, rfl, _, _, _, _, false, rfl, .ty _, .base (.int i), kit_ty (by decide +kernel), false, rfl, q⟩
/-- value a whole number, low one, high None or one -/
def sp_is_between : Sp := fun vs H Q _ => ∃ (i lo : Int) (hi : Option Int), vs = [.int i, .int lo, (match hi with | some j => .int j | none => .non)] ∧ Q (.bl (decide (lo ≤ i ∧ ∀ j, hi = some j → i ≤ j))) H
theorem G_is_between (T : Top K mg) : FnOk P w K mg base CX0 2 T.f_is_between T.fd_is_between ["value", "low", "high"] sp_is_between := by
  refine T.F_is_between.ok sc_is_between (fun vs H Q E h => by obtain ⟨i, lo, hi, rfl, _⟩ := h; rfl) (fun cdv A outer s H vs Q E hr h => ?_)
  obtain ⟨i, lo, hi, rfl, q⟩ := h
  refine ⟨_, PSs.nox (pss_one (ps_ret (pe_and (pe_call (G_is_whole (P := P) T) (hr.mono (by decide)) (by rfl) T.g_is_whole T.F_is_whole.kp T.b_is_whole .nil pass0 (pa_cons (pv 0) pa_nil)) (pe_and (pe_cmpR op_le (pv 1) (pv 0) (nomark _)) (pe_one (pe_or (pe_cmpR op_isN (pv 2) pe_non (nomark _)) (pe_one (pe_cmpR op_le (pv 0) (pv 2) (nomark _))))))))), ?_⟩
  refine ⟨_, rfl, i, rfl, true, rfl, iteT ?_⟩
  refine ⟨_, rfl, _, rfl, _, _, rfl, rfl, _, rfl, ite2 (fun e => ?_) (fun e => ?_)⟩
  · have e1 : lo ≤ i := of_decide_eq_true e
    cases hi with
    | none =>
      refine ⟨_, rfl, rfl, _, rfl, iteT ?_⟩
      rw [decide_eq_true ⟨e1, fun j h => nomatch h⟩] at q
      exact q
    | some j =>
      refine ⟨_, rfl, rfl, _, rfl, iteF ⟨_, rfl, _, rfl, _, _, rfl, rfl, ?_⟩⟩
      have e2 : decide (lo ≤ i ∧ ∀ j', some j = some j' → i ≤ j') = decide (i ≤ j) := by
        by_cases h : i ≤ j
        · rw [decide_eq_true h, decide_eq_true]
          exact ⟨e1, fun j' e => by cases e; exact h⟩
        · rw [decide_eq_false h, decide_eq_false]
          exact fun z => h (z.2 j rfl)
      rw [e2] at q
      exact q
  · have e1 : ¬ lo ≤ i := fun h => e (decide_eq_true h)
    rw [decide_eq_false fun z => e1 z.1] at q
    exact q
end
end My

set_option exponentiation.threshold 100000
namespace My
open PySem PySem.Spec PyProof.Rows L2 Pre
section
variable {P : Program} {w : World} {K : PySem.W.Frag} {mg : Str → Option Value} {base : Heap}
/-! ### the law's draws -/
/-- a generator: its count is at most n -/
def GenAt (H : Hp) (g : Addr) (n : Nat) : Prop := ∃ x y z : Int, H g = some (.lst [.int x, .int y, .int z]) ∧ 0 ≤ z ∧ z ≤ (n : Int)
/-- all but one thing stand as they stood -/
def But (g : Addr) (H H' : Hp) : Prop := ∀ b o, b ≠ g → H b = some o → H' b = some o
theorem But.refl {g : Addr} {H : Hp} : But g H H := fun _ _ _ h => h
theorem But.trans {g : Addr} {H H1 H2 : Hp} (a : But g H H1) (b : But g H1 H2) : But g H H2 := fun c o n h => b c o n (a c o n h)
theorem But.same {g : Addr} {H H1 H2 : Hp} (a : But g H H1) (b : Same H1 H2) : But g H H2 := fun c o n h => b c o (a c o n h)
theorem But.of {g : Addr} {H H1 : Hp} (b : Same H H1) : But g H H1 := fun c o _ h => b c o h
theorem But.upd {g : Addr} {H H1 : Hp} {o : HO} (a : But g H H1) : But g H (upd H1 g o) := fun c u n h => by
  rw [upd_ne n]
  exact a c u n h
theorem But.free {g : Addr} {H H1 : Hp} (a : But g H H1) {p : Addr} (n : p ≠ g) (h : H1 p = none) : H p = none := by
  cases e : H p with
  | none => rfl
  | some o => rw [a p o n e] at h; cases h
/-- what is changed was not there at first -/
theorem But.fresh {g : Addr} {H H1 H2 : Hp} (s : Same H H1) (n : H g = none) (b : But g H1 H2) : Same H H2 := fun c o h => b c o (ne_of_none h n) (s c o h)
theorem GenAt.mono {H : Hp} {g : Addr} {n m : Nat} (h : GenAt H g n) (l : n ≤ m) : GenAt H g m := by
  obtain ⟨x, y, z, a, b, c⟩ := h
  exact ⟨x, y, z, a, b, by omega⟩
theorem GenAt.same {H H' : Hp} {g : Addr} {n : Nat} (h : GenAt H g n) (s : Same H H') : GenAt H' g n := by
  obtain ⟨x, y, z, a, b⟩ := h
  exact ⟨x, y, z, s _ _ a, b⟩
theorem GenAt.ne {H : Hp} {g : Addr} {n : Nat} {p : Addr} (h : GenAt H g n) (np : H p = none) : p ≠ g := by
  obtain ⟨x, y, z, a, _⟩ := h
  exact (ne_of_none a np).symm
theorem small_2900 {b : Int} (h : b ≤ 2 ^ 60) : b < 2 ^ 2900 := by omega
theorem pow_pos' (w : Nat) : (0 : Int) < 2 ^ w := Int.pow_pos (by decide)
theorem pow2_le {k m : Nat} (h : k ≤ m) : (2 : Int) ^ k ≤ 2 ^ m := by
  have e := Nat.pow_le_pow_right (show 0 < 2 by decide) h
  have e2 : ((2 ^ k : Nat) : Int) ≤ ((2 ^ m : Nat) : Int) := Int.ofNat_le.mpr e
  rw [Int.natCast_pow, Int.natCast_pow] at e2
  exact e2
def sp_law_cell (K : PySem.W.Frag) : Sp := fun vs H Q _ => ∃ (a : Addr) (ns : List Int) (i : Nat), vs = [.ref a, .int i] ∧ SqL K H a (ns.map V.int) ∧ ∀ (n : Int) H', Same H H' → Q (.int n) H'
theorem G_law_cell (T : Top K mg) : FnOk P w K mg base CX0 1 T.f_law_cell T.fd_law_cell ["_law_script", "_law_index"] (sp_law_cell K) := by
  refine T.F_law_cell.ok sc_law_cell (fun vs H Q E h => by obtain ⟨a, ns, i, rfl, _⟩ := h; rfl) (fun cdv A outer s H vs Q E hr h => ?_)
  obtain ⟨a, ns, i, rfl, hS, q⟩ := h
  refine ⟨_, PSs.nox (pss_cons (ps_if (pt_cmpR op_lt (pv 1) (pe_callB (k_len K rfl) (by rfl) T.n_len (by decide +kernel) (pa_cons (pv 0) pa_nil)) (nomark _))
    (pss_one (ps_ret (pe_ix (k_ixL K rfl) (pv 0) (pv 1) (fun _ _ => rfl))))
    pss_nil)
  (pss_one (ps_ret (pe_op op_mod (pe_callB (k_sum K rfl rfl) (by rfl) T.n_sum (by decide +kernel) (pa_cons (pe_slice (k_slL K rfl) (pv 0) po_none (po_some pe_int)) pa_nil)) pe_int)))), ?_⟩
  refine ⟨_, rfl, _, rfl, a, _, rfl, .inl hS, _, _, rfl, rfl, _, rfl, ite2 (fun e => ?_) (fun e => ?_)⟩
  · have e1 : (i : Int) < (((ns.map V.int).length : Nat) : Int) := of_decide_eq_true e
    rw [List.length_map] at e1
    have hi : i < ns.length := by omega
    refine ⟨_, rfl, _, rfl, a, _, _, .int ns[i], rfl, rfl, hS, atI_nat (by rw [List.getElem?_map, List.getElem?_eq_getElem hi]; rfl), ?_⟩
    exact q _ _ (Same.refl _)
  · refine ⟨_, rfl, _, rfl, a, _, rfl, hS, fun p np => ?_⟩
    have ec : ∃ ms : List Int, cutV (ns.map V.int) none (some 1) = ms.map V.int := by
      unfold cutV
      exact ⟨(ns.drop (HT.sIx (ns.map V.int).length 0 none)).take (HT.sIx (ns.map V.int).length (ns.map V.int).length (some 1) - HT.sIx (ns.map V.int).length 0 none), by rw [List.map_take, List.map_drop]⟩
    obtain ⟨ms, em⟩ := ec
    refine ⟨p, ms, rfl, .inl (.inl (by rw [upd_same, em])), _, _, rfl, rfl, (by show (0 : Int) < 1000003; decide), ?_⟩
    exact q _ _ (same_upd np)
theorem cmul_mod (x m j : Int) (h0 : 0 < m) (h1 : m ≤ 2 ^ 60) : CMul (x % m) j := by
  have a := Int.emod_nonneg x (show m ≠ 0 by omega)
  have b := Int.emod_lt_of_pos x h0
  exact .inl ⟨by omega, by omega⟩
def sp_law_hash : Sp := fun vs H Q _ => ∃ i j : Int, vs = [.int i, .int j] ∧ 0 ≤ j ∧ j < 2 ^ 60 ∧ ∀ n : Int, Q (.int n) H
theorem G_law_hash (T : Top K mg) : FnOk P w K mg base CX0 1 T.f_law_hash T.fd_law_hash ["_law_seed", "_law_index"] sp_law_hash := by
  refine T.F_law_hash.ok sc_law_hash (fun vs H Q E h => by obtain ⟨i, j, rfl, _⟩ := h; rfl) (fun cdv A outer s H vs Q E hr h => ?_)
  obtain ⟨i, j, rfl, h0, h1, q⟩ := h
  refine ⟨_, PSs.nox (pss_cons (ps_set (i := 2) sc_law_hash.nd rfl (by first | exact Or.inl rfl | exact Or.inr rfl) (pe_op op_mod (pe_callTy call_int1 (by rfl) T.n_int (by decide +kernel) (pa_cons (pe_op op_add (pe_op op_add (pe_op op_add (pe_op op_mul (pv 0) pe_int) (pe_op op_mul (pe_op op_mul pe_int (pv 1)) (pv 1))) (pv 1)) pe_int) pa_nil)) pe_int))
  (pss_cons (ps_set (i := 2) sc_law_hash.nd rfl (by first | exact Or.inl rfl | exact Or.inr rfl) (pe_op op_mod (pe_callTy call_int1 (by rfl) T.n_int (by decide +kernel) (pa_cons (pe_op op_add (pe_op op_mul (pv 2) (pv 2)) pe_int) pa_nil)) pe_int))
  (pss_one (ps_ret (pe_op op_mod (pe_callTy call_int1 (by rfl) T.n_int (by decide +kernel) (pa_cons (pe_op op_mul (pv 2) pe_int) pa_nil)) pe_int))))), ?_⟩
  refine ⟨_, rfl, _, _, rfl, rfl, .inr ⟨by decide, by decide⟩, _, rfl, _, _, rfl, rfl, .inl ⟨by decide, by decide⟩, _, rfl, _, _, rfl, rfl, .inr ⟨by omega, by omega⟩, _, _, rfl, rfl, _, rfl, _, _, rfl, rfl, _, _, rfl, rfl,
    .inl ⟨_, rfl, _, _, rfl, rfl, (by show (0 : Int) < _; decide), ?_⟩⟩
  refine ⟨_, rfl, _, rfl, _, _, rfl, rfl, cmul_mod _ _ _ (by decide) (by decide), _, _, rfl, rfl, .inl ⟨_, rfl, _, _, rfl, rfl, (by show (0 : Int) < _; decide), ?_⟩⟩
  refine ⟨_, rfl, _, _, rfl, rfl, .inr ⟨by decide, by decide⟩, .inl ⟨_, rfl, _, _, rfl, rfl, (by show (0 : Int) < _; decide), ?_⟩⟩
  exact q _

def sp_law_generator (K : PySem.W.Frag) : Sp := fun vs H Q _ => ∃ (a : Addr) (ns : List Int) (i : Nat), vs = [.ref a, .int i] ∧ SqL K H a (ns.map V.int) ∧ ∀ H' g, Same H H' → H g = none → GenAt H' g (1000 * i) → Q (.ref g) H'
theorem G_law_generator (T : Top K mg) : FnOk P w K mg base CX0 2 T.f_law_generator T.fd_law_generator ["_law_script", "_law_index"] (sp_law_generator K) := by
  refine T.F_law_generator.ok sc_law_generator (fun vs H Q E h => by obtain ⟨a, ns, i, rfl, _⟩ := h; rfl) (fun cdv A outer s H vs Q E hr h => ?_)
  obtain ⟨a, ns, i, rfl, hS, q⟩ := h
  refine ⟨_, PSs.nox (pss_cons (ps_set (i := 2) sc_law_generator.nd rfl (by first | exact Or.inl rfl | exact Or.inr rfl) (pe_call (G_law_cell (P := P) T) (hr.mono (by decide)) (by rfl) T.g_law_cell T.F_law_cell.kp T.b_law_cell .nil pass0 (pa_cons (pv 0) (pa_cons (pv 1) pa_nil))))
  (pss_one (ps_ret (pe_lst (pa_cons (pe_op op_mod (pe_callTy call_int1 (by rfl) T.n_int (by decide +kernel) (pa_cons (pe_callB (call_max2 rfl) (by rfl) T.n_max (by decide +kernel) (pa_cons (pe_op op_sub (pv 2) (pe_op op_powW pe_int pe_int)) (pa_cons pe_int pa_nil))) pa_nil)) (pe_op op_powW (pe_op op_powW pe_int pe_int) pe_int)) (pa_cons (pe_op op_mod (pe_callTy call_int1 (by rfl) T.n_int (by decide +kernel) (pa_cons (pv 2) pa_nil)) pe_int) (pa_cons (pe_op op_mul pe_int (pv 1)) pa_nil))))))), ?_⟩
  refine ⟨_, rfl, _, rfl, a, ns, i, rfl, hS, fun n H1 s1 => ?_⟩
  refine ⟨_, rfl, _, _, rfl, rfl, ⟨by decide, by decide +kernel⟩, _, _, rfl, rfl, _, _, rfl, .inl ⟨_, rfl, _, _, rfl, rfl, ⟨by decide, by decide +kernel⟩, _, _, rfl, rfl, ⟨by decide, by decide +kernel⟩, _, _, rfl, rfl, (by show (0 : Int) < _; decide +kernel), ?_⟩⟩
  refine ⟨_, rfl, .inl ⟨_, rfl, _, _, rfl, rfl, (by show (0 : Int) < _; decide), ?_⟩⟩
  refine ⟨_, rfl, _, _, rfl, rfl, .inl ⟨by decide, by decide⟩, (show 3 ≤ sizeLine by decide), fun g ng => ?_⟩
  exact q _ g (s1.trans (same_upd ng)) (s1.free ng) ⟨_, _, _, upd_same, by omega, by omega⟩
def sp_law_random : Sp := fun vs H Q _ => ∃ (g : Addr) (b : Int) (n : Nat), vs = [.ref g, .int b] ∧ GenAt H g n ∧ n ≤ 10 ^ 12 ∧ 0 < b ∧ b < 2 ^ 2900 ∧ ∀ (d : Int) H', 0 ≤ d → d < b → GenAt H' g (n + 100) → But g H H' → Q (.int d) H'
theorem G_law_random (T : Top K mg) : FnOk P w K mg base CX0 2 T.f_law_random T.fd_law_random ["_law_generator_here", "_law_bound"] sp_law_random := by
  refine T.F_law_random.ok sc_law_random (fun vs H Q E h => by obtain ⟨g, b, n, rfl, _⟩ := h; rfl) (fun cdv A outer s H vs Q E hr h => ?_)
  obtain ⟨g, b, n, rfl, ⟨x, y, z, hg, z0, z1⟩, hn, b0, b1, q⟩ := h
  refine ⟨_, PSs.nox (pss_cons (ps_if (pt_cmpR op_gt (pe_ix (k_ixL K rfl) (pv 0) pe_int (fun _ _ => rfl)) pe_int (nomark _))
    (pss_cons (ps_set (i := 2) sc_law_random.nd rfl (by first | exact Or.inl rfl | exact Or.inr rfl) (pe_op op_mod (pe_callTy call_int1 (by rfl) T.n_int (by decide +kernel) (pa_cons (pe_ix (k_ixL K rfl) (pv 0) pe_int (fun _ _ => rfl)) pa_nil)) (pv 1)))
  (pss_cons (ps_asg (pe_op op_fdivW (pe_ix (k_ixL K rfl) (pv 0) pe_int (fun _ _ => rfl)) (pv 1)) (pg_sub (pv 0) pe_int set_list))
  (pss_one (ps_ret (pv 2)))))
    pss_nil)
  (pss_cons (ps_set (i := 2) sc_law_random.nd rfl (by first | exact Or.inl rfl | exact Or.inr rfl) pe_int)
  (pss_cons (ps_for PassesOwn.never rfl (pi_range1 (by rfl) T.n_range (pa_cons (pe_op op_add pe_int (pe_op op_fdivW (pe_bits (pv 1)) pe_int)) pa_nil)) (pg_name (i := 3) sc_law_random.nd rfl (by first | exact Or.inl rfl | exact Or.inr rfl))
    (pss_cons (ps_asg (pe_op op_add (pe_ix (k_ixL K rfl) (pv 0) pe_int (fun _ _ => rfl)) pe_int) (pg_sub (pv 0) pe_int set_list))
  (pss_one (ps_set (i := 2) sc_law_random.nd rfl (by first | exact Or.inl rfl | exact Or.inr rfl) (pe_op op_add (pe_op op_mul (pv 2) pe_int) (pe_call (G_law_hash (P := P) T) (hr.mono (by decide)) (by rfl) T.g_law_hash T.F_law_hash.kp T.b_law_hash .nil pass0 (pa_cons (pe_ix (k_ixL K rfl) (pv 0) pe_int (fun _ _ => rfl)) (pa_cons (pe_ix (k_ixL K rfl) (pv 0) pe_int (fun _ _ => rfl)) pa_nil))))))))
  (pss_one (ps_ret (pe_op op_mod (pe_callTy call_int1 (by rfl) T.n_int (by decide +kernel) (pa_cons (pv 2) pa_nil)) (pv 1))))))), ?_⟩
  have a0 : ∀ x y z : Int, atI [V.int x, .int y, .int z] 0 = some (.int x) := fun _ _ _ => rfl
  have a1 : ∀ x y z : Int, atI [V.int x, .int y, .int z] 1 = some (.int y) := fun _ _ _ => rfl
  have a2 : ∀ x y z : Int, atI [V.int x, .int y, .int z] 2 = some (.int z) := fun _ _ _ => rfl
  have hS : SqL K H g [.int x, .int y, .int z] := .inl (.inl hg)
  have nb : b.natAbs < 2 ^ 2900 := by
    have e : ((b.natAbs : Nat) : Int) < ((2 ^ 2900 : Nat) : Int) := by
      rw [Int.natCast_pow]
      omega
    exact Int.ofNat_lt.mp e
  refine ⟨_, rfl, g, _, 0, _, rfl, rfl, hS, a0 x y z, _, _, rfl, rfl, _, rfl, ite2 (fun e => ?_) (fun e => ?_)⟩
  · refine ⟨_, rfl, g, _, 0, _, rfl, rfl, hS, a0 x y z, .inl ⟨_, rfl, _, rfl, _, _, rfl, rfl, b0, ?_⟩⟩
    refine ⟨_, rfl, g, _, 0, _, rfl, rfl, hS, a0 x y z, _, rfl, _, _, rfl, rfl, wide_div b0 nb (by decide) (by decide), _, rfl, g, _, 0, 0, rfl, rfl, hg, rfl, _, rfl, ?_⟩
    exact q _ _ (Int.emod_nonneg _ (by omega)) (Int.emod_lt_of_pos _ b0) ⟨_, _, _, upd_same, z0, by omega⟩ (But.upd But.refl)
  · have hb : Builtin.Int.intBits b ≤ 2900 := PyProof.Rows.intBits_le nb
    have hq0 : (0 : Int) ≤ ((Builtin.Int.intBits b : Nat) : Int) / 30 := Int.ediv_nonneg (Int.natCast_nonneg _) (by decide)
    have hq1 : ((Builtin.Int.intBits b : Nat) : Int) / 30 ≤ 97 := by omega
    refine ⟨_, rfl, _, rfl, _, _, rfl, rfl, ⟨by decide, by decide +kernel⟩, _, _, rfl, rfl, _, rfl, by omega, by omega, ?_⟩
    refine for_range (lo := 0) (n := (1 + ((Builtin.Int.intBits b : Nat) : Int) / 30).toNat) (fun i σ H1 => ∃ (d z' : Int) (v : Option V), σ = [some (.ref g), some (.int b), some (.int d), v] ∧ H1 g = some (.lst [.int x, .int y, .int z']) ∧ 0 ≤ z' ∧ z' ≤ (n : Int) + (i : Int) ∧ But g H H1)
      ⟨0, z, none, rfl, hg, z0, by omega, But.refl⟩ ?_ ?_
    · rintro i σ H1 hi ⟨d, z', v, rfl, hg1, y0, y1, b1⟩
      have hS1 : SqL K H1 g [.int x, .int y, .int z'] := .inl (.inl hg1)
      refine ⟨_, rfl, g, _, 2, _, rfl, rfl, hS1, a2 x y z', _, _, rfl, rfl, _, rfl, g, _, 2, 2, rfl, rfl, hg1, rfl, ?_⟩
      have hS2 : SqL K (upd H1 g (.lst [.int x, .int y, .int (z' + 1)])) g [.int x, .int y, .int (z' + 1)] := .inl (.inl upd_same)
      refine ⟨_, rfl, _, _, rfl, rfl, .inr ⟨by decide, by decide⟩, _, rfl, g, _, 1, _, rfl, rfl, hS2, a1 _ _ _, _, rfl, g, _, 2, _, rfl, rfl, hS2, a2 _ _ _, _, _, rfl, by omega, by omega, fun r => ?_⟩
      exact ⟨_, _, rfl, rfl, _, z' + 1, _, rfl, upd_same, by omega, by omega, But.upd b1⟩
    · rintro σ H1 ⟨d, z', v, rfl, hg1, y0, y1, b1⟩
      refine ⟨_, rfl, .inl ⟨_, rfl, _, rfl, _, _, rfl, rfl, b0, ?_⟩⟩
      exact q _ _ (Int.emod_nonneg _ (by omega)) (Int.emod_lt_of_pos _ b0) ⟨_, _, _, hg1, y0, by omega⟩ b1
/-- a comprehension over a range that draws whole numbers -/
theorem lc_drawR {lo : Int} {n : Nat} {j : Nat} {te : TE} {vs : List Nat} {σ : L2.St} {H1 : Hp} {D : Addr} {Qd : Hp → Prop} (g : Addr) (m step : Nat) (P : Int → Prop) (nD : H1 D = none) (hG : GenAt H1 g m) (hz : n < sizeLine)
    (hw : ∀ x, wipe ((wipe σ vs).set j (some x)) vs = wipe σ vs)
    (hs : ∀ (i : Nat) (H' : Hp), i < n → But g H1 H' → GenAt H' g (m + step * i) → ∀ Qt : V → Hp → Prop, (∀ (y : Int) H'', P y → But g H' H'' → GenAt H'' g (m + step * (i + 1)) → Qt (.int y) H'') → te ((wipe σ vs).set j (some (.int (lo + (i : Int))))) H' Qt)
    (hd : ∀ H' (ys : List Int), But g H1 H' → GenAt H' g (m + step * n) → H' D = some (.lst (ys.map V.int)) → ys.length = n → (∀ y ∈ ys, P y) → Qd H') :
    ∃ W : Nat → Nat → Hp → Prop, (∃ m, W 0 m (upd H1 D (.lst []))) ∧ ∀ i m H, W i m H →
      ((Itr lo n).stop i H ∧ Qd H) ∨ ((Itr lo n).go i H ∧ ∃ Nx : Hp → Prop, (∀ H', Nx H' → ∃ m', m' < m ∧ W (i + 1) m' H') ∧ ∀ x H', (Itr lo n).yld i H x H' → gName j x (wipe σ vs) H' fun σ2 H2 => wipe σ2 vs = wipe σ vs ∧ tYes σ2 H2 fun b H3 =>
        if b = true then te σ2 H3 fun y H4 => ∃ acc, H4 D = some (.lst acc) ∧ acc.length < sizeLine ∧ Nx (upd H4 D (.lst (acc ++ [y]))) else Nx H3) := by
  have nDg : D ≠ g := hG.ne nD
  refine lc_range (lo := lo) (n := n) (fun i H => ∃ ys : List Int, But g H1 H ∧ GenAt H g (m + step * i) ∧ H D = some (.lst (ys.map V.int)) ∧ ys.length = i ∧ ∀ y ∈ ys, P y)
    ⟨[], But.of (same_upd nD), hG.same (same_upd nD), upd_same, rfl, (fun _ h => nomatch h)⟩ ?_ ?_
  · rintro i H hi ⟨ys, b, hg, hD, hl, hP⟩
    refine ⟨hw _, ?_⟩
    unfold tYes
    dsimp only
    rw [if_pos (show true = true from rfl)]
    refine hs i H hi b hg _ fun y H2 py b2 hg2 => ?_
    refine ⟨_, b2 _ _ nDg hD, by rw [List.length_map]; omega, ys ++ [y], ?_, ?_, ?_, ?_, ?_⟩
    · intro c o nc hc
      rw [upd_ne (ne_of_none hc nD)]
      exact b2 _ _ nc (b _ _ nc hc)
    · obtain ⟨x1, x2, x3, e1, e2⟩ := hg2
      exact ⟨x1, x2, x3, by rw [upd_ne nDg.symm]; exact e1, e2⟩
    · rw [upd_same, List.map_append]
      rfl
    · rw [List.length_append, hl]
      rfl
    · intro z hz
      rcases List.mem_append.mp hz with hz | hz
      · exact hP z hz
      · rw [List.mem_singleton.mp hz]
        exact py
  · rintro H ⟨ys, b, hg, hD, hl, hP⟩
    exact hd H ys b hg hD hl hP
end
end My

namespace My
open PySem PySem.Spec PyProof.Rows L2 Pre
/-- a comprehension over a list of whole numbers that draws whole numbers -/
theorem lc_drawL {K : PySem.W.Frag} {a : Addr} {xs : List Int} {j : Nat} {te : TE} {vs : List Nat} {σ : L2.St} {H1 : Hp} {D : Addr} {Qd : Hp → Prop} (g : Addr) (m step : Nat) (P : Int → Prop) (nD : H1 D = none) (hG : GenAt H1 g m) (hA : H1 a = some (.lst (xs.map V.int))) (ag : a ≠ g) (hz : xs.length < sizeLine)
    (hw : ∀ x, wipe ((wipe σ vs).set j (some x)) vs = wipe σ vs)
    (hs : ∀ (i : Nat) (x : Int) (H' : Hp), xs[i]? = some x → But g H1 H' → GenAt H' g (m + step * i) → ∀ Qt : V → Hp → Prop, (∀ (y : Int) H'', P y → But g H' H'' → GenAt H'' g (m + step * (i + 1)) → Qt (.int y) H'') → te ((wipe σ vs).set j (some (.int x))) H' Qt)
    (hd : ∀ H' (ys : List Int), But g H1 H' → GenAt H' g (m + step * xs.length) → H' D = some (.lst (ys.map V.int)) → ys.length = xs.length → (∀ y ∈ ys, P y) → Qd H') :
    ∃ W : Nat → Nat → Hp → Prop, (∃ m, W 0 m (upd H1 D (.lst []))) ∧ ∀ i m H, W i m H →
      ((Itl K a).stop i H ∧ Qd H) ∨ ((Itl K a).go i H ∧ ∃ Nx : Hp → Prop, (∀ H', Nx H' → ∃ m', m' < m ∧ W (i + 1) m' H') ∧ ∀ x H', (Itl K a).yld i H x H' → gName j x (wipe σ vs) H' fun σ2 H2 => wipe σ2 vs = wipe σ vs ∧ tYes σ2 H2 fun b H3 =>
        if b = true then te σ2 H3 fun y H4 => ∃ acc, H4 D = some (.lst acc) ∧ acc.length < sizeLine ∧ Nx (upd H4 D (.lst (acc ++ [y]))) else Nx H3) := by
  have nDg : D ≠ g := hG.ne nD
  have aD : a ≠ D := ne_of_none hA nD
  refine lc_list (K := K) (a := a) (xs := xs.map V.int) (fun i H => ∃ ys : List Int, But g H1 H ∧ GenAt H g (m + step * i) ∧ H D = some (.lst (ys.map V.int)) ∧ ys.length = i ∧ ∀ y ∈ ys, P y)
    ⟨[], But.of (same_upd nD), hG.same (same_upd nD), upd_same, rfl, (fun _ h => nomatch h)⟩ (fun i H _ ⟨_, b, _⟩ => .inl (.inl (b _ _ ag hA))) ?_ ?_
  · rintro i v H hi ⟨ys, b, hg, hD, hl, hP⟩
    obtain ⟨x, hx, rfl⟩ := int_at hi
    have hil := (List.getElem?_eq_some_iff.mp hx).1
    refine ⟨hw _, ?_⟩
    unfold tYes
    dsimp only
    rw [if_pos (show true = true from rfl)]
    refine hs i x H hx b hg _ fun y H2 py b2 hg2 => ?_
    refine ⟨_, b2 _ _ nDg hD, by rw [List.length_map]; omega, ys ++ [y], ?_, ?_, ?_, ?_, ?_⟩
    · intro c o nc hc
      rw [upd_ne (ne_of_none hc nD)]
      exact b2 _ _ nc (b _ _ nc hc)
    · obtain ⟨x1, x2, x3, e1, e2⟩ := hg2
      exact ⟨x1, x2, x3, by rw [upd_ne nDg.symm]; exact e1, e2⟩
    · rw [upd_same, List.map_append]
      rfl
    · rw [List.length_append, hl]
      rfl
    · intro z hz
      rcases List.mem_append.mp hz with hz | hz
      · exact hP z hz
      · rw [List.mem_singleton.mp hz]
        exact py
  · rintro H ⟨ys, b, hg, hD, hl, hP⟩
    rw [List.length_map] at hg hl
    exact hd H ys b hg hD hl hP
end My

namespace My
open PySem PySem.Spec PyProof.Rows L2 Pre
/-- a comprehension over a list that makes new things: R tells what is known of the i-th -/
theorem lc_relL {K : PySem.W.Frag} {a : Addr} {xs : List V} {j : Nat} {te : TE} {vs : List Nat} {σ : L2.St} {H1 : Hp} {D : Addr} {Qd : Hp → Prop} (R : Nat → V → Hp → Prop) (nD : H1 D = none) (hS : SqL K H1 a xs) (hz : xs.length < sizeLine)
    (mono : ∀ (i : Nat) (y : V) (H H' : Hp), Pre.Off D H H' → R i y H → R i y H') (hw : ∀ x, wipe ((wipe σ vs).set j (some x)) vs = wipe σ vs)
    (hs : ∀ (i : Nat) (x : V) (H' : Hp) (zs : List V), xs[i]? = some x → Same H1 H' → H' D = some (.lst zs) → ∀ Qt : V → Hp → Prop, (∀ y H'', Same H' H'' → R i y H'' → Qt y H'') → te ((wipe σ vs).set j (some x)) H' Qt)
    (hd : ∀ H' ys, Same H1 H' → H' D = some (.lst ys) → ys.length = xs.length → (∀ (i : Nat) (y : V), ys[i]? = some y → R i y H') → Qd H') :
    ∃ W : Nat → Nat → Hp → Prop, (∃ m, W 0 m (upd H1 D (.lst []))) ∧ ∀ i m H, W i m H →
      ((Itl K a).stop i H ∧ Qd H) ∨ ((Itl K a).go i H ∧ ∃ Nx : Hp → Prop, (∀ H', Nx H' → ∃ m', m' < m ∧ W (i + 1) m' H') ∧ ∀ x H', (Itl K a).yld i H x H' → gName j x (wipe σ vs) H' fun σ2 H2 => wipe σ2 vs = wipe σ vs ∧ tYes σ2 H2 fun b H3 =>
        if b = true then te σ2 H3 fun y H4 => ∃ acc, H4 D = some (.lst acc) ∧ acc.length < sizeLine ∧ Nx (upd H4 D (.lst (acc ++ [y]))) else Nx H3) := by
  refine lc_list (K := K) (a := a) (xs := xs) (RelPv R H1 D) ⟨[], same_upd nD, upd_same, rfl, fun k y h => by simp at h⟩ (fun i H _ ⟨_, s, _⟩ => s.seq hS) ?_ ?_
  · rintro i x H hx ⟨ys, s, hD, hl, hR⟩
    have hi : i < xs.length := (List.getElem?_eq_some_iff.mp hx).1
    refine ⟨hw _, ?_⟩
    unfold tYes
    dsimp only
    rw [if_pos (show true = true from rfl)]
    refine hs i x H ys hx s hD _ fun y H4 s4 r4 => ?_
    refine ⟨ys, s4 _ _ hD, by omega, ys ++ [y], same_over nD (s.trans s4), upd_same, by rw [List.length_append, hl]; rfl, fun k z hz => ?_⟩
    have off : Pre.Off D H4 (upd H4 D (.lst (ys ++ [y]))) := fun b o nb h => by rw [upd_ne nb]; exact h
    by_cases hk : k < ys.length
    · rw [List.getElem?_append_left hk] at hz
      exact mono k z H _ (fun b o nb h => off b o nb (s4 b o h)) (hR k z hz)
    · rw [List.getElem?_append_right (by omega)] at hz
      have hk2 : k - ys.length = 0 := by
        have h2 := (List.getElem?_eq_some_iff.mp hz).1
        rw [List.length_singleton] at h2
        omega
      rw [hk2] at hz
      cases hz
      have ek : k = i := by omega
      rw [ek]
      exact mono i y H4 _ off r4
  · rintro H ⟨ys, s, hD, hl, hR⟩
    exact hd H ys s hD hl hR
/-- a list of lists of whole numbers -/
def RowsIn (H : Hp) (p : Addr) (rows : List (List Int)) : Prop := ∃ as : List Addr, H p = some (.lst (as.map V.ref)) ∧ as.length = rows.length ∧ ∀ (i : Nat) (a : Addr) (r : List Int), as[i]? = some a → rows[i]? = some r → H a = some (.lst (r.map V.int))
theorem RowsIn.same {H H' : Hp} {p : Addr} {rows : List (List Int)} (h : RowsIn H p rows) (s : Same H H') : RowsIn H' p rows := by
  obtain ⟨as, h1, h2, h3⟩ := h
  exact ⟨as, s _ _ h1, h2, fun i a r ha hr => s _ _ (h3 i a r ha hr)⟩
section
variable {X : Cx}
theorem huD {k : Nat} {A : Around} (r : Room k A) : A.units + 65 < cLine := by have := r.un; omega
theorem k_inD (K : PySem.W.Frag) (h : X.K = K) (hu : X.A.units + 65 < cLine) : OpR X (compareOp .In) (rInD K) := by subst h; exact op_inD hu
theorem k_notInD (K : PySem.W.Frag) (h : X.K = K) (hu : X.A.units + 65 < cLine) : OpR X (compareOp .NotIn) (rNotInD K) := by subst h; exact op_notInD hu
theorem k_indexD (K : PySem.W.Frag) (h : X.K = K) (hu : X.A.units + 65 < cLine) : MtR X "list.index" (rIndexD K) := by subst h; exact mt_indexD hu
end
/-- rows as data -/
def rowD (r : List Int) : PyData := .list (r.map PyData.int)
theorem rows_dp {K : PySem.W.Frag} {H : Hp} : ∀ {as : List Addr} {rows : List (List Int)}, as.length = rows.length → (∀ (i : Nat) (a : Addr) (r : List Int), as[i]? = some a → rows[i]? = some r → H a = some (.lst (r.map V.int))) → DpAll K H (as.map V.ref) (rows.map rowD)
  | [], [], _, _ => .nil
  | [], _ :: _, h, _ => by simp at h
  | _ :: _, [], h, _ => by simp at h
  | a :: as, r :: rows, h, k => .cons (.lst (.inl (.inl (k 0 a r rfl rfl))) (Pre.dp_ints r)) (rows_dp (by simpa using h) fun i t q ht hq => k (i + 1) t q (by simpa using ht) (by simpa using hq))
theorem rowD_eqv (r q : List Int) : PyData.eqv (rowD r) (rowD q) = decide (r = q) := by
  unfold rowD
  rw [PyData.eqv, eqv_ints]
theorem rows_shaped (rows : List (List Int)) : SeqAt.shaped (.list (rows.map rowD)) = true := by
  have h1 : ∀ l : List (List Int), PyData.canLayAll0 (l.map rowD) = true := fun l => by
    induction l with
    | nil => rfl
    | cons r l ih =>
      show (PyData.canLay0 (rowD r) && PyData.canLayAll0 (l.map rowD)) = true
      rw [ih]
      unfold rowD
      rw [PyData.canLay0, lay_ints]
      rfl
  have h2 : ∀ l : List (List Int), PyData.depthAll (l.map rowD) ≤ 1 := fun l => by
    induction l with
    | nil => simp [PyData.depthAll]
    | cons r l ih =>
      show PyData.depthAll (rowD r :: l.map rowD) ≤ 1
      rw [PyData.depthAll]
      unfold rowD at *
      rw [PyData.depth, depth_ints]
      omega
  show (PyData.canLay0 (.list (rows.map rowD)) && decide (PyData.depth (.list (rows.map rowD)) ≤ 64)) = true
  rw [Bool.and_eq_true]
  have := h2 rows
  exact ⟨by rw [PyData.canLay0]; exact h1 rows, decide_eq_true (by rw [PyData.depth]; omega)⟩
end My

namespace My
open PySem PySem.Spec PyProof.Rows L2 Pre
/-! ### min and max of a list of pairs of whole numbers -/
def pairD (p : Int × Int) : PyData := .tuple [.int p.1, .int p.2]
def ltP2 (p q : Int × Int) : Prop := p.1 < q.1 ∨ (p.1 = q.1 ∧ p.2 < q.2)
instance (p q : Int × Int) : Decidable (ltP2 p q) := by unfold ltP2; infer_instance
theorem pair_lt (p q : Int × Int) : PySem.W.dataLt (pairD p) (pairD q) = decide (ltP2 p q) := PySem.W.dataLt_ii p.1 p.2 q.1 q.2
theorem ltP2_trans {p q r : Int × Int} (h : ¬ ltP2 q p) (k : ¬ ltP2 r q) : ¬ ltP2 r p := by
  unfold ltP2 at *
  omega
def minP (p : Int × Int) (ps : List (Int × Int)) : Int × Int := ps.foldl (fun a y => if ltP2 y a then y else a) p
def maxP (p : Int × Int) (ps : List (Int × Int)) : Int × Int := ps.foldl (fun a y => if ltP2 a y then y else a) p
theorem minP_data : ∀ (ps : List (Int × Int)) (p : Int × Int), PySem.W.minD (pairD p) (ps.map pairD) = pairD (minP p ps)
  | [], _ => rfl
  | q :: ps, p => by
    show PySem.W.minD (if PySem.W.dataLt (pairD q) (pairD p) = true then pairD q else pairD p) (ps.map pairD) = pairD (minP (if ltP2 q p then q else p) ps)
    rw [pair_lt]
    by_cases h : ltP2 q p
    · rw [decide_eq_true h, if_pos rfl, if_pos h, minP_data ps q]
    · rw [decide_eq_false h, if_neg (by decide), if_neg h, minP_data ps p]
theorem maxP_data : ∀ (ps : List (Int × Int)) (p : Int × Int), PySem.W.maxD (pairD p) (ps.map pairD) = pairD (maxP p ps)
  | [], _ => rfl
  | q :: ps, p => by
    show PySem.W.maxD (if PySem.W.dataLt (pairD p) (pairD q) = true then pairD q else pairD p) (ps.map pairD) = pairD (maxP (if ltP2 p q then q else p) ps)
    rw [pair_lt]
    by_cases h : ltP2 p q
    · rw [decide_eq_true h, if_pos rfl, if_pos h, maxP_data ps q]
    · rw [decide_eq_false h, if_neg (by decide), if_neg h, maxP_data ps p]
theorem minP_spec : ∀ (ps : List (Int × Int)) (p : Int × Int), minP p ps ∈ p :: ps ∧ ∀ q ∈ p :: ps, ¬ ltP2 q (minP p ps)
  | [], p => ⟨List.mem_cons_self, fun q hq => by
      rw [List.mem_singleton.mp hq]
      show ¬ ltP2 p p
      unfold ltP2
      omega⟩
  | r :: ps, p => by
    show minP (if ltP2 r p then r else p) ps ∈ _ ∧ ∀ q ∈ p :: r :: ps, ¬ ltP2 q (minP (if ltP2 r p then r else p) ps)
    by_cases h : ltP2 r p
    · rw [if_pos h]
      obtain ⟨h1, h2⟩ := minP_spec ps r
      refine ⟨List.mem_cons_of_mem _ h1, fun q hq => ?_⟩
      rcases List.mem_cons.mp hq with rfl | hq
      · have := h2 r List.mem_cons_self
        exact fun z => this (by unfold ltP2 at *; omega)
      · exact h2 q hq
    · rw [if_neg h]
      obtain ⟨h1, h2⟩ := minP_spec ps p
      refine ⟨?_, fun q hq => ?_⟩
      · rcases List.mem_cons.mp h1 with e | e
        · rw [e]; exact List.mem_cons_self
        · exact List.mem_cons_of_mem _ (List.mem_cons_of_mem _ e)
      · rcases List.mem_cons.mp hq with rfl | hq
        · exact h2 q List.mem_cons_self
        · rcases List.mem_cons.mp hq with rfl | hq
          · have := h2 p List.mem_cons_self
            exact fun z => this (by unfold ltP2 at *; omega)
          · exact h2 q (List.mem_cons_of_mem _ hq)
theorem maxP_spec : ∀ (ps : List (Int × Int)) (p : Int × Int), maxP p ps ∈ p :: ps ∧ ∀ q ∈ p :: ps, ¬ ltP2 (maxP p ps) q
  | [], p => ⟨List.mem_cons_self, fun q hq => by
      rw [List.mem_singleton.mp hq]
      show ¬ ltP2 p p
      unfold ltP2
      omega⟩
  | r :: ps, p => by
    show maxP (if ltP2 p r then r else p) ps ∈ _ ∧ ∀ q ∈ p :: r :: ps, ¬ ltP2 (maxP (if ltP2 p r then r else p) ps) q
    by_cases h : ltP2 p r
    · rw [if_pos h]
      obtain ⟨h1, h2⟩ := maxP_spec ps r
      refine ⟨List.mem_cons_of_mem _ h1, fun q hq => ?_⟩
      rcases List.mem_cons.mp hq with rfl | hq
      · have := h2 r List.mem_cons_self
        exact fun z => this (by unfold ltP2 at *; omega)
      · exact h2 q hq
    · rw [if_neg h]
      obtain ⟨h1, h2⟩ := maxP_spec ps p
      refine ⟨?_, fun q hq => ?_⟩
      · rcases List.mem_cons.mp h1 with e | e
        · rw [e]; exact List.mem_cons_self
        · exact List.mem_cons_of_mem _ (List.mem_cons_of_mem _ e)
      · rcases List.mem_cons.mp hq with rfl | hq
        · exact h2 q List.mem_cons_self
        · rcases List.mem_cons.mp hq with rfl | hq
          · have := h2 p List.mem_cons_self
            exact fun z => this (by unfold ltP2 at *; omega)
          · exact h2 q (List.mem_cons_of_mem _ hq)
theorem pairs_alike (ps : List (Int × Int)) : PySem.W.AlikeAll (ps.map pairD) := by
  refine ⟨fun x hx y hy => ?_, fun x hx => ?_⟩
  · obtain ⟨p, _, rfl⟩ := List.mem_map.mp hx
    obtain ⟨q, _, rfl⟩ := List.mem_map.mp hy
    rfl
  · obtain ⟨p, _, rfl⟩ := List.mem_map.mp hx
    exact fun z => nomatch z
theorem pairs_lay : ∀ ps : List (Int × Int), PyData.canLayAll0 (ps.map pairD) = true
  | [] => rfl
  | p :: ps => by simp [PyData.canLayAll0, PyData.canLay0, pairD, pairs_lay ps]
theorem pairs_depth : ∀ ps : List (Int × Int), PyData.depthAll (ps.map pairD) ≤ 2
  | [] => by simp [PyData.depthAll]
  | p :: ps => by
    have := pairs_depth ps
    simp only [List.map_cons, PyData.depthAll, pairD, PyData.depth]
    omega
/-- a list of pairs, at a -/
def PairsAt (K : PySem.W.Frag) (H : Hp) (a : Addr) (ps : List (Int × Int)) : Prop := ∃ as : List Addr, SqL K H a (as.map V.ref) ∧ as.length = ps.length ∧ ∀ (i : Nat) (t : Addr) (p : Int × Int), as[i]? = some t → ps[i]? = some p → SqT K H t [.int p.1, .int p.2]
theorem pairs_dp {K : PySem.W.Frag} {H : Hp} : ∀ {as : List Addr} {ps : List (Int × Int)}, as.length = ps.length → (∀ (i : Nat) (t : Addr) (p : Int × Int), as[i]? = some t → ps[i]? = some p → SqT K H t [.int p.1, .int p.2]) → DpAll K H (as.map V.ref) (ps.map pairD)
  | [], [], _, _ => .nil
  | [], _ :: _, h, _ => by simp at h
  | _ :: _, [], h, _ => by simp at h
  | a :: as, p :: ps, h, k => .cons (.tup (k 0 a p rfl rfl) (.cons (.int _) (.cons (.int _) .nil))) (pairs_dp (by simpa using h) fun i t q ht hq => k (i + 1) t q (by simpa using ht) (by simpa using hq))
def rMnP (K : PySem.W.Frag) (best : Int × Int → List (Int × Int) → Int × Int) : List V → Hp → VK → Prop := fun xs H Q => ∃ (a : Addr) (p : Int × Int) (ps : List (Int × Int)), xs = [.ref a] ∧ PairsAt K H a (p :: ps) ∧ ∀ t, SqT K H t [.int (best p ps).1, .int (best p ps).2] → Q (.ref t) H
section
variable {X : Cx} {K : PySem.W.Frag}
theorem pick {H : Hp} {s : Shared} {as : List Addr} {ps : List (Int × Int)} {its : List Value} {i : Nat} {v : Value} {h' : Heap} {bs cs : List Addr} {b : Int × Int} (hl : as.length = ps.length)
    (hT : ∀ (i : Nat) (t : Addr) (p : Int × Int), as[i]? = some t → ps[i]? = some p → SqT K H t [.int p.1, .int p.2]) (rv : Vals (as.map V.ref) its) (hr : ReadsAll s.heap its (ps.map pairD) cs) (hv : its.toArray[i]? = some v) (rd : Reads h' v (pairD b) bs)
    (hk : ∀ b o, s.heap.get? b = some o → h'.get? b = some o) : ∃ t, v = .ref t ∧ SqT K H t [.int b.1, .int b.2] := by
  have hv' : its[i]? = some v := by simpa using hv
  have hil : i < its.length := (List.getElem?_eq_some_iff.mp hv').1
  have hvl := rv.length
  rw [List.length_map] at hvl
  obtain ⟨u, hu, ru⟩ := rv.get (show (as.map V.ref)[i]? = some (.ref (as[i]'(by omega))) by rw [List.getElem?_map, List.getElem?_eq_getElem (by omega)]; rfl)
  rw [hv'] at hu
  cases hu
  have hp : ps[i]? = some (ps[i]'(by omega)) := List.getElem?_eq_getElem (by omega)
  obtain ⟨ds, r1, _, _, _⟩ := PySem.W.readsAll_at hr i v hv'
  have e1 : (ps.map pairD).getD i .none = pairD (ps[i]'(by omega)) := by
    rw [List.getD_eq_getElem?_getD, List.getElem?_map, hp]
    rfl
  rw [e1] at r1
  have e2 := PySem.SeqAt.Reads.unique (pairD b) _ v _ _ (by simp [pairD, PyData.canLay0, PyData.canLayAll0]) rd (Reads.keeps hk r1)
  have e3 : b = ps[i]'(by omega) := by
    unfold pairD at e2
    injection e2 with e2
    injection e2 with e4 e5
    injection e5 with e5 _
    injection e4 with e4
    injection e5 with e5
    exact Prod.ext e4 e5
  refine ⟨as[i]'(by omega), ru, ?_⟩
  rw [e3]
  exact hT i _ _ (List.getElem?_eq_getElem (by omega)) hp
theorem k_minP (K : PySem.W.Frag) (h : X.K = K) (hc : X.calm = true) (hu : X.A.units + 65 < cLine) : CallR X (.builtin "min") (rMnP K minP) := by
  subst h
  intro pins s σ H xs us Q I r h
  obtain ⟨a, p, ps, rfl, ⟨as, hS, hl, hT⟩, q⟩ := h
  obtain ⟨its, rv, hL, _⟩ := I.list hS
  rw [Vals.ref1 r]
  obtain ⟨cs, hr⟩ := Dp.readsAll I _ _ its (pairs_dp hl hT) rv
  have hd := pairs_depth (p :: ps)
  refine PySem.W.min_list_data (I.ok.hd hc) hL.isList (show ReadsAll s.heap its.toArray.toList (pairD p :: ps.map pairD) cs by simpa using hr) (pairs_alike (p :: ps)) (by rw [List.map_cons] at hd; omega) fun i v h' tk bs hv rd hk => ?_
  rw [minP_data] at rd
  obtain ⟨t, rfl, ht⟩ := pick hl hT rv hr hv rd hk
  exact ⟨.ref t, H, I.kept hk, rfl, q t ht⟩
theorem k_maxP (K : PySem.W.Frag) (h : X.K = K) (hc : X.calm = true) (hu : X.A.units + 65 < cLine) : CallR X (.builtin "max") (rMnP K maxP) := by
  subst h
  intro pins s σ H xs us Q I r h
  obtain ⟨a, p, ps, rfl, ⟨as, hS, hl, hT⟩, q⟩ := h
  obtain ⟨its, rv, hL, _⟩ := I.list hS
  rw [Vals.ref1 r]
  obtain ⟨cs, hr⟩ := Dp.readsAll I _ _ its (pairs_dp hl hT) rv
  have hd := pairs_depth (p :: ps)
  refine PySem.W.max_list_data (I.ok.hd hc) hL.isList (show ReadsAll s.heap its.toArray.toList (pairD p :: ps.map pairD) cs by simpa using hr) (pairs_alike (p :: ps)) (by rw [List.map_cons] at hd; omega) fun i v h' tk bs hv rd hk => ?_
  rw [maxP_data] at rd
  obtain ⟨t, rfl, ht⟩ := pick hl hT rv hr hv rd hk
  exact ⟨.ref t, H, I.kept hk, rfl, q t ht⟩
theorem huM {k : Nat} {A : Around} (r : Room k A) : A.units + 65 < cLine := by have := r.un; omega
end
end My

namespace My
open PySem PySem.Spec PyProof.Rows L2 Pre
/-! ### data in a heap: what is told of a value by lists and tuples that stand there (none of them frozen) -/
mutual
inductive Dt (H : Hp) : V → PyData → Prop
  | non : Dt H .non .none
  | bl (b : Bool) : Dt H (.bl b) (.bool b)
  | int (n : Int) : Dt H (.int n) (.int n)
  | str (x : Str) : Dt H (.str x) (.str x)
  | lst {a : Addr} {xs : List V} {ds : List PyData} : H a = some (.lst xs) → DtA H xs ds → Dt H (.ref a) (.list ds)
  | tup {a : Addr} {xs : List V} {ds : List PyData} : H a = some (.tup xs) → DtA H xs ds → Dt H (.ref a) (.tuple ds)
inductive DtA (H : Hp) : List V → List PyData → Prop
  | nil : DtA H [] []
  | cons {v : V} {vs : List V} {d : PyData} {ds : List PyData} : Dt H v d → DtA H vs ds → DtA H (v :: vs) (d :: ds)
end
mutual
theorem Dt.same {H H' : Hp} (s : Same H H') : ∀ {d : PyData} {v : V}, Dt H v d → Dt H' v d
  | .none, _, h => by cases h; exact .non
  | .bool _, _, h => by cases h; exact .bl _
  | .int _, _, h => by cases h; exact .int _
  | .str _, _, h => by cases h; exact .str _
  | .list _, _, h => by cases h with | lst a b => exact .lst (s _ _ a) (DtA.same s b)
  | .tuple _, _, h => by cases h with | tup a b => exact .tup (s _ _ a) (DtA.same s b)
  | .dict _, _, h => nomatch h
theorem DtA.same {H H' : Hp} (s : Same H H') : ∀ {ds : List PyData} {vs : List V}, DtA H vs ds → DtA H' vs ds
  | [], _, h => by cases h; exact .nil
  | _ :: _, _, h => by cases h with | cons a b => exact .cons (Dt.same s a) (DtA.same s b)
end
mutual
theorem Dt.dp {K : PySem.W.Frag} {H : Hp} : ∀ {d : PyData} {v : V}, Dt H v d → Dp K H v d
  | .none, _, h => by cases h; exact .non
  | .bool _, _, h => by cases h; exact .bl _
  | .int _, _, h => by cases h; exact .int _
  | .str _, _, h => by cases h; exact .str _
  | .list _, _, h => by cases h with | lst a b => exact .lst (.inl (.inl a)) (DtA.dp b)
  | .tuple _, _, h => by cases h with | tup a b => exact .tup (.inl (.inl a)) (DtA.dp b)
  | .dict _, _, h => nomatch h
theorem DtA.dp {K : PySem.W.Frag} {H : Hp} : ∀ {ds : List PyData} {vs : List V}, DtA H vs ds → DpAll K H vs ds
  | [], _, h => by cases h; exact .nil
  | _ :: _, _, h => by cases h with | cons a b => exact .cons (Dt.dp a) (DtA.dp b)
end
theorem DtA.len {H : Hp} : ∀ {ds : List PyData} {vs : List V}, DtA H vs ds → vs.length = ds.length
  | [], _, h => by cases h; rfl
  | _ :: _, _, h => by cases h with | cons a b => rw [List.length_cons, List.length_cons, DtA.len b]
theorem DtA.app {H : Hp} : ∀ {ds : List PyData} {vs : List V} {es : List PyData} {us : List V}, DtA H vs ds → DtA H us es → DtA H (vs ++ us) (ds ++ es)
  | [], _, _, _, h, k => by cases h; exact k
  | _ :: _, _, _, _, h, k => by cases h with | cons a b => exact .cons a (DtA.app b k)
theorem DtA.get {H : Hp} : ∀ {ds : List PyData} {vs : List V} {i : Nat} {d : PyData}, DtA H vs ds → ds[i]? = some d → ∃ v, vs[i]? = some v ∧ Dt H v d
  | [], _, _, _, _, k => by simp at k
  | _ :: _, _, 0, _, h, k => by
    cases h with
    | cons a b => rw [List.getElem?_cons_zero] at k; cases k; exact ⟨_, rfl, a⟩
  | _ :: _, _, i + 1, _, h, k => by
    cases h with
    | cons a b => rw [List.getElem?_cons_succ] at k; rw [List.getElem?_cons_succ]; exact DtA.get b k
theorem DtA.got {H : Hp} {ds : List PyData} {vs : List V} {i : Nat} {v : V} (h : DtA H vs ds) (k : vs[i]? = some v) : ∃ d, ds[i]? = some d ∧ Dt H v d := by
  have hi := (List.getElem?_eq_some_iff.mp k).1
  have hl := h.len
  obtain ⟨u, hu, d⟩ := h.get (List.getElem?_eq_getElem (show i < ds.length by omega))
  rw [k] at hu
  cases hu
  exact ⟨_, List.getElem?_eq_getElem (by omega), d⟩
theorem DtA.take {H : Hp} : ∀ {ds : List PyData} {vs : List V} (n : Nat), DtA H vs ds → DtA H (vs.take n) (ds.take n)
  | _, _, 0, _ => .nil
  | [], _, _ + 1, h => by cases h; exact .nil
  | _ :: _, _, n + 1, h => by cases h with | cons a b => exact .cons a (DtA.take n b)
theorem DtA.drop {H : Hp} : ∀ {ds : List PyData} {vs : List V} (n : Nat), DtA H vs ds → DtA H (vs.drop n) (ds.drop n)
  | _, _, 0, h => h
  | [], _, _ + 1, h => by cases h; exact .nil
  | _ :: _, _, n + 1, h => by cases h with | cons a b => exact DtA.drop n b
theorem DtA.rev {H : Hp} : ∀ {ds : List PyData} {vs : List V}, DtA H vs ds → DtA H vs.reverse ds.reverse
  | [], _, h => by cases h; exact .nil
  | _ :: _, _, h => by
    cases h with
    | cons a b => rw [List.reverse_cons, List.reverse_cons]; exact DtA.app (DtA.rev b) (.cons a .nil)
theorem DtA.ints {H : Hp} : ∀ ns : List Int, DtA H (ns.map V.int) (ns.map PyData.int)
  | [] => .nil
  | n :: r => .cons (.int n) (DtA.ints r)
theorem DtA.intsE {H : Hp} : ∀ {ns : List Int} {vs : List V}, DtA H vs (ns.map PyData.int) → vs = ns.map V.int
  | [], _, h => by cases h; rfl
  | n :: r, _, h => by
    cases h with
    | cons a b => cases a; rw [DtA.intsE b]; rfl
/-- a list of whole numbers -/
theorem Dt.ints {H : Hp} {a : Addr} {ns : List Int} (h : H a = some (.lst (ns.map V.int))) : Dt H (.ref a) (rowD ns) := .lst h (DtA.ints ns)
theorem Dt.intsE {H : Hp} {v : V} {ns : List Int} (h : Dt H v (rowD ns)) : ∃ a, v = .ref a ∧ H a = some (.lst (ns.map V.int)) := by
  unfold rowD at h
  cases h with
  | lst a b => rw [DtA.intsE b] at a; exact ⟨_, rfl, a⟩
theorem Dt.listE {H : Hp} {v : V} {ds : List PyData} (h : Dt H v (.list ds)) : ∃ a xs, v = .ref a ∧ H a = some (.lst xs) ∧ DtA H xs ds := by
  cases h with
  | lst a b => exact ⟨_, _, rfl, a, b⟩
theorem Dt.tupE {H : Hp} {v : V} {ds : List PyData} (h : Dt H v (.tuple ds)) : ∃ a xs, v = .ref a ∧ H a = some (.tup xs) ∧ DtA H xs ds := by
  cases h with
  | tup a b => exact ⟨_, _, rfl, a, b⟩
/-! ### what is owned (and changes) is left out -/
def rs (S : List Addr) (H : Hp) : Hp := fun a => if a ∈ S then none else H a
theorem rs_nil (H : Hp) : rs [] H = H := by funext a; simp [rs]
theorem rs_in {S : List Addr} {H : Hp} {a : Addr} (h : a ∈ S) : rs S H a = none := if_pos h
theorem rs_out {S : List Addr} {H : Hp} {a : Addr} (h : a ∉ S) : rs S H a = H a := if_neg h
theorem rs_some {S : List Addr} {H : Hp} {a : Addr} {o : HO} (h : rs S H a = some o) : a ∉ S ∧ H a = some o := by
  by_cases m : a ∈ S
  · rw [rs_in m] at h; cases h
  · rw [rs_out m] at h; exact ⟨m, h⟩
theorem rs_le {S : List Addr} {H : Hp} : Same (rs S H) H := fun _ _ h => (rs_some h).2
theorem rs_same {S : List Addr} {H H' : Hp} (s : Same H H') : Same (rs S H) (rs S H') := fun b o h => by
  obtain ⟨m, e⟩ := rs_some h
  rw [rs_out m]
  exact s b o e
theorem rs_upd {S : List Addr} {H : Hp} {p : Addr} {o : HO} (h : p ∈ S) : rs S (L2.upd H p o) = rs S H := by
  funext a
  by_cases m : a ∈ S
  · rw [rs_in m, rs_in m]
  · rw [rs_out m, rs_out m, upd_ne (fun e => m (by rw [e]; exact h))]
/-- all of them stand -/
def Has (S : List Addr) (H : Hp) : Prop := ∀ a ∈ S, ∃ o, H a = some o
theorem Has.nil {H : Hp} : Has [] H := fun _ h => nomatch h
theorem Has.same {S : List Addr} {H H' : Hp} (h : Has S H) (s : Same H H') : Has S H' := fun a m => by
  obtain ⟨o, e⟩ := h a m
  exact ⟨o, s a o e⟩
theorem Has.cons {S : List Addr} {H : Hp} {p : Addr} {o : HO} (h : Has S H) (e : H p = some o) : Has (p :: S) H := fun a m => by
  rcases List.mem_cons.mp m with rfl | m
  · exact ⟨o, e⟩
  · exact h a m
theorem Has.upd {S : List Addr} {H : Hp} {p : Addr} {o : HO} (h : Has S H) : Has S (L2.upd H p o) := fun a m => by
  by_cases e : a = p
  · subst e; exact ⟨o, upd_same⟩
  · rw [upd_ne e]; exact h a m
theorem Has.out {S : List Addr} {H : Hp} {p : Addr} (h : Has S H) (n : H p = none) : p ∉ S := fun m => by
  obtain ⟨o, e⟩ := h p m
  rw [n] at e
  cases e
theorem GenAt.has {H : Hp} {g : Addr} {n : Nat} (h : GenAt H g n) : Has [g] H := by
  obtain ⟨x, y, z, e, _⟩ := h
  exact Has.nil.cons e
/-- all but what is owned stays -/
def Sta (S : List Addr) (H H' : Hp) : Prop := Same (rs S H) (rs S H')
theorem Sta.of {S : List Addr} {H H' : Hp} (s : Same H H') : Sta S H H' := rs_same s
theorem Sta.trans {S : List Addr} {H H1 H2 : Hp} (a : Sta S H H1) (b : Sta S H1 H2) : Sta S H H2 := fun c o h => b c o (a c o h)
theorem Sta.at_ {S : List Addr} {H H' : Hp} (s : Sta S H H') {a : Addr} {o : HO} (m : a ∉ S) (h : H a = some o) : H' a = some o := (rs_some (s a o (by rw [rs_out m]; exact h))).2
theorem Sta.upd {S : List Addr} {H : Hp} {p : Addr} {o : HO} (h : p ∈ S) : Sta S H (L2.upd H p o) := fun c u e => by rw [rs_upd h]; exact e
theorem Sta.more {S : List Addr} {H H' : Hp} {p : Addr} (s : Sta S H H') : Sta (p :: S) H H' := fun c o h => by
  obtain ⟨m, e⟩ := rs_some h
  have m2 : c ∉ S := fun z => m (List.mem_cons_of_mem _ z)
  rw [rs_out m]
  exact s.at_ m2 e
theorem But.sta {g : Addr} {H H' : Hp} (b : But g H H') : Sta [g] H H' := fun c o h => by
  obtain ⟨m, e⟩ := rs_some h
  rw [rs_out m]
  exact b c o (fun z => m (by rw [z]; exact List.mem_cons_self)) e
/-- what was there ahead of a new thing does not speak of it -/
theorem under {S : List Addr} {H H' : Hp} {p : Addr} (n : H p = none) (s : Same H H') : Same (rs S H) (rs (p :: S) H') := fun c o h => by
  obtain ⟨m, e⟩ := rs_some h
  rw [rs_out (fun z => by
    rcases List.mem_cons.mp z with rfl | z
    · rw [n] at e; cases e
    · exact m z)]
  exact s c o e
theorem over {S : List Addr} {H : Hp} {p : Addr} : Same (rs (p :: S) H) (rs S H) := fun c o h => by
  obtain ⟨m, e⟩ := rs_some h
  rw [rs_out (fun z => m (List.mem_cons_of_mem _ z))]
  exact e
/-! ### a new list, a new tuple, a sum of lists -/
theorem dt_new {S : List Addr} {H : Hp} {p : Addr} {xs : List V} {ds : List PyData} (hS : Has S H) (n : H p = none) (h : DtA (rs S H) xs ds) : Dt (rs S (upd H p (.lst xs))) (.ref p) (.list ds) :=
  .lst (by rw [rs_out (hS.out n)]; exact upd_same) (h.same (rs_same (same_upd n)))
theorem dt_newT {S : List Addr} {H : Hp} {p : Addr} {xs : List V} {ds : List PyData} (hS : Has S H) (n : H p = none) (h : DtA (rs S H) xs ds) : Dt (rs S (upd H p (.tup xs))) (.ref p) (.tuple ds) :=
  .tup (by rw [rs_out (hS.out n)]; exact upd_same) (h.same (rs_same (same_upd n)))
theorem d_lst {S : List Addr} {H : Hp} {xs : List V} {ds : List PyData} {Q : VK} (hS : Has S H) (h : DtA (rs S H) xs ds) (hz : xs.length ≤ sizeLine) (k : ∀ p H', Same H H' → H p = none → H' p = some (.lst xs) → Dt (rs S H') (.ref p) (.list ds) → Q (.ref p) H') : xs.length ≤ sizeLine ∧ ∀ p, H p = none → Q (.ref p) (upd H p (.lst xs)) :=
  ⟨hz, fun p n => k p _ (same_upd n) n upd_same (dt_new hS n h)⟩
theorem d_tup {S : List Addr} {H : Hp} {xs : List V} {ds : List PyData} {Q : VK} (hS : Has S H) (h : DtA (rs S H) xs ds) (hz : xs.length ≤ sizeLine) (k : ∀ p H', Same H H' → H p = none → H' p = some (.tup xs) → Dt (rs S H') (.ref p) (.tuple ds) → Q (.ref p) H') : xs.length ≤ sizeLine ∧ ∀ p, H p = none → Q (.ref p) (upd H p (.tup xs)) :=
  ⟨hz, fun p n => k p _ (same_upd n) n upd_same (dt_newT hS n h)⟩
theorem d_cat {S : List Addr} {H : Hp} {v w : V} {ds es : List PyData} {Q : VK} (hS : Has S H) (hv : Dt (rs S H) v (.list ds)) (hw : Dt (rs S H) w (.list es)) (hz : ds.length + es.length ≤ sizeLine) (k : ∀ p H', Same H H' → H p = none → Dt (rs S H') (.ref p) (.list (ds ++ es)) → Q (.ref p) H') : rCat v w H Q := by
  obtain ⟨a, xs, rfl, ha, hx⟩ := hv.listE
  obtain ⟨b, ys, rfl, hb, hy⟩ := hw.listE
  exact ⟨a, b, xs, ys, rfl, rfl, (rs_some ha).2, (rs_some hb).2, by rw [hx.len, hy.len]; exact hz, fun p n => k p _ (same_upd n) n (dt_new hS n (hx.app hy))⟩
theorem d_eq {K : PySem.W.Frag} {H : Hp} {v w : V} {d e : PyData} {Q : VK} (hv : Dt H v d) (hw : Dt H w e) (sd : SeqAt.shaped d = true) (se : SeqAt.shaped e = true) (q : Q (.bl (PyData.eqv d e)) H) : rEqD K v w H Q := ⟨d, e, hv.dp, hw.dp, sd, se, q⟩
theorem d_ne {K : PySem.W.Frag} {H : Hp} {v w : V} {d e : PyData} {Q : VK} (hv : Dt H v d) (hw : Dt H w e) (sd : SeqAt.shaped d = true) (se : SeqAt.shaped e = true) (q : Q (.bl (!PyData.eqv d e)) H) : rNeD K v w H Q := ⟨d, e, hv.dp, hw.dp, sd, se, q⟩
/-! ### comprehensions -/
/-- what comes of an item: nothing, or data -/
def Out (S : List Addr) (H : Hp) : Option PyData → Option V → Prop
  | some d, some v => Dt (rs S H) v d
  | none, none => True
  | _, _ => False
def accP (S : List Addr) (H1 : Hp) (D : Addr) (ds : List PyData) (H : Hp) : Prop := Same H1 H ∧ ∃ ys, H D = some (.lst ys) ∧ DtA (rs (D :: S) H) ys ds
theorem acc_step {S : List Addr} {H1 : Hp} {D : Addr} {sel : List (Option PyData)} {i : Nat} {o : Option PyData} {H H4 : Hp} (nD : H1 D = none) (ho : sel[i]? = some o) (hz : sel.length < sizeLine) (h : accP S H1 D ((sel.take i).filterMap id) H) (s4 : Same H H4) :
    ∀ y : Option V, Out (D :: S) H4 o y → match y with
      | some v => ∃ acc, H4 D = some (.lst acc) ∧ acc.length < sizeLine ∧ accP S H1 D ((sel.take (i + 1)).filterMap id) (upd H4 D (.lst (acc ++ [v])))
      | none => accP S H1 D ((sel.take (i + 1)).filterMap id) H4 := by
  obtain ⟨s, ys, hD, hy⟩ := h
  intro y hO
  rw [take_fm ho]
  cases o with
  | none =>
    cases y with
    | none => exact ⟨s.trans s4, ys, s4 _ _ hD, by simpa using hy.same (rs_same s4)⟩
    | some v => exact absurd hO (fun z => z)
  | some d =>
    cases y with
    | none => exact absurd hO (fun z => z)
    | some v =>
      refine ⟨ys, s4 _ _ hD, ?_, same_over nD (s.trans s4), ys ++ [v], upd_same, ?_⟩
      · rw [hy.len]
        exact Nat.lt_of_le_of_lt (fm_len sel i) hz
      · rw [rs_upd List.mem_cons_self]
        exact (hy.same (rs_same s4)).app (.cons hO .nil)
theorem acc_end {S : List Addr} {H1 : Hp} {D : Addr} {ds : List PyData} {H : Hp} (hS : Has S H1) (nD : H1 D = none) (h : accP S H1 D ds H) : Dt (rs S H) (.ref D) (.list ds) := by
  obtain ⟨s, ys, hD, hy⟩ := h
  exact .lst (by rw [rs_out (hS.out nD)]; exact hD) (hy.same over)
theorem lc_dR {lo : Int} {n : Nat} {j : Nat} {tt : TT} {te : TE} {vs : List Nat} {σ : L2.St} {H1 : Hp} {D : Addr} {Qd : Hp → Prop} {S : List Addr} (hS : Has S H1) (sel : List (Option PyData)) (nD : H1 D = none) (hlen : sel.length = n) (hz : n < sizeLine)
    (hw : ∀ x, wipe ((wipe σ vs).set j (some x)) vs = wipe σ vs)
    (hs : ∀ (i : Nat) (o : Option PyData) (H' : Hp), i < n → sel[i]? = some o → Same H1 H' → Has (D :: S) H' → ∀ Qt : Option V → Hp → Prop, (∀ y H'', Same H' H'' → Out (D :: S) H'' o y → Qt y H'') →
      tt ((wipe σ vs).set j (some (.int (lo + (i : Int))))) H' fun b H3 => if b = true then te ((wipe σ vs).set j (some (.int (lo + (i : Int))))) H3 fun y H4 => Qt (some y) H4 else Qt none H3)
    (hd : ∀ H', Same H1 H' → H' D ≠ none → Dt (rs S H') (.ref D) (.list (sel.filterMap id)) → Qd H') :
    ∃ W : Nat → Nat → Hp → Prop, (∃ m, W 0 m (upd H1 D (.lst []))) ∧ ∀ i m H, W i m H →
      ((Itr lo n).stop i H ∧ Qd H) ∨ ((Itr lo n).go i H ∧ ∃ Nx : Hp → Prop, (∀ H', Nx H' → ∃ m', m' < m ∧ W (i + 1) m' H') ∧ ∀ x H', (Itr lo n).yld i H x H' → gName j x (wipe σ vs) H' fun σ2 H2 => wipe σ2 vs = wipe σ vs ∧ tt σ2 H2 fun b H3 =>
        if b = true then te σ2 H3 fun y H4 => ∃ acc, H4 D = some (.lst acc) ∧ acc.length < sizeLine ∧ Nx (upd H4 D (.lst (acc ++ [y]))) else Nx H3) := by
  refine lc_range (lo := lo) (n := n) (fun i H => accP S H1 D ((sel.take i).filterMap id) H) ⟨same_upd nD, [], upd_same, .nil⟩ ?_ ?_
  · rintro i H hi h
    refine ⟨hw _, ?_⟩
    have ho : sel[i]? = some (sel[i]'(by omega)) := List.getElem?_eq_getElem (by omega)
    obtain ⟨s, ys, hD, hy⟩ := id h
    exact hs i _ H hi ho s ((hS.same s).cons hD) (fun o H4 => match o with
      | some y => ∃ acc, H4 D = some (.lst acc) ∧ acc.length < sizeLine ∧ accP S H1 D ((sel.take (i + 1)).filterMap id) (upd H4 D (.lst (acc ++ [y])))
      | none => accP S H1 D ((sel.take (i + 1)).filterMap id) H4) fun y H4 s4 hO => acc_step nD ho (by omega) h s4 y hO
  · rintro H h
    rw [← hlen, List.take_length] at h
    refine hd H h.1 ?_ (acc_end hS nD h)
    obtain ⟨_, ys, hD, _⟩ := h
    rw [hD]
    exact fun z => nomatch z
theorem lc_dL {K : PySem.W.Frag} {a : Addr} {xs : List V} {j : Nat} {tt : TT} {te : TE} {vs : List Nat} {σ : L2.St} {H1 : Hp} {D : Addr} {Qd : Hp → Prop} {S : List Addr} (hS : Has S H1) (sel : List (Option PyData)) (nD : H1 D = none) (hA : SqL K H1 a xs) (hlen : sel.length = xs.length) (hz : xs.length < sizeLine)
    (hw : ∀ x, wipe ((wipe σ vs).set j (some x)) vs = wipe σ vs)
    (hs : ∀ (i : Nat) (x : V) (o : Option PyData) (H' : Hp), xs[i]? = some x → sel[i]? = some o → Same H1 H' → Has (D :: S) H' → ∀ Qt : Option V → Hp → Prop, (∀ y H'', Same H' H'' → Out (D :: S) H'' o y → Qt y H'') →
      tt ((wipe σ vs).set j (some x)) H' fun b H3 => if b = true then te ((wipe σ vs).set j (some x)) H3 fun y H4 => Qt (some y) H4 else Qt none H3)
    (hd : ∀ H', Same H1 H' → H' D ≠ none → Dt (rs S H') (.ref D) (.list (sel.filterMap id)) → Qd H') :
    ∃ W : Nat → Nat → Hp → Prop, (∃ m, W 0 m (upd H1 D (.lst []))) ∧ ∀ i m H, W i m H →
      ((Itl K a).stop i H ∧ Qd H) ∨ ((Itl K a).go i H ∧ ∃ Nx : Hp → Prop, (∀ H', Nx H' → ∃ m', m' < m ∧ W (i + 1) m' H') ∧ ∀ x H', (Itl K a).yld i H x H' → gName j x (wipe σ vs) H' fun σ2 H2 => wipe σ2 vs = wipe σ vs ∧ tt σ2 H2 fun b H3 =>
        if b = true then te σ2 H3 fun y H4 => ∃ acc, H4 D = some (.lst acc) ∧ acc.length < sizeLine ∧ Nx (upd H4 D (.lst (acc ++ [y]))) else Nx H3) := by
  refine lc_list (K := K) (a := a) (xs := xs) (fun i H => accP S H1 D ((sel.take i).filterMap id) H) ⟨same_upd nD, [], upd_same, .nil⟩ (fun i H _ p => p.1.seq hA) ?_ ?_
  · rintro i x H hx h
    refine ⟨hw _, ?_⟩
    have hi := (List.getElem?_eq_some_iff.mp hx).1
    have ho : sel[i]? = some (sel[i]'(by omega)) := List.getElem?_eq_getElem (by omega)
    obtain ⟨s, ys, hD, hy⟩ := id h
    exact hs i x _ H hx ho s ((hS.same s).cons hD) (fun o H4 => match o with
      | some y => ∃ acc, H4 D = some (.lst acc) ∧ acc.length < sizeLine ∧ accP S H1 D ((sel.take (i + 1)).filterMap id) (upd H4 D (.lst (acc ++ [y])))
      | none => accP S H1 D ((sel.take (i + 1)).filterMap id) H4) fun y H4 s4 hO => acc_step nD ho (by omega) h s4 y hO
  · rintro H h
    rw [← hlen, List.take_length] at h
    refine hd H h.1 ?_ (acc_end hS nD h)
    obtain ⟨_, ys, hD, _⟩ := h
    rw [hD]
    exact fun z => nomatch z
/-- maps: each item's data -/
theorem sel_map {α : Type} (l : List α) (f : α → PyData) : (l.map fun x => some (f x)).filterMap id = l.map f := by
  induction l with
  | nil => rfl
  | cons x l ih =>
    show f x :: (l.map fun x => some (f x)).filterMap id = _
    rw [ih]
    rfl
/-- over any walk -/
theorem lc_dW {J : It} {n : Nat} {G : Hp → Prop} {Y : Nat → Hp → V → Hp → Prop} (w : Walk J n G Y) {g : TG} {tt : TT} {te : TE} {vs : List Nat} {σ : L2.St} {H1 : Hp} {D : Addr} {Qd : Hp → Prop} {S : List Addr} (hS : Has S H1) (sel : List (Option PyData)) (nD : H1 D = none) (hlen : sel.length = n) (hz : n < sizeLine)
    (hG : ∀ H', Same H1 H' → G H')
    (hs : ∀ (i : Nat) (o : Option PyData) (H0 : Hp) (x : V) (H' : Hp), i < n → sel[i]? = some o → Same H1 H0 → Has (D :: S) H0 → Y i H0 x H' → ∀ Qt : Option V → Hp → Prop, (∀ y H'', Same H0 H'' → Out (D :: S) H'' o y → Qt y H'') →
      g x (wipe σ vs) H' fun σ2 H2 => wipe σ2 vs = wipe σ vs ∧ tt σ2 H2 fun b H3 => if b = true then te σ2 H3 fun y H4 => Qt (some y) H4 else Qt none H3)
    (hd : ∀ H', Same H1 H' → H' D ≠ none → Dt (rs S H') (.ref D) (.list (sel.filterMap id)) → Qd H') :
    ∃ W : Nat → Nat → Hp → Prop, (∃ m, W 0 m (upd H1 D (.lst []))) ∧ ∀ i m H, W i m H →
      (J.stop i H ∧ Qd H) ∨ (J.go i H ∧ ∃ Nx : Hp → Prop, (∀ H', Nx H' → ∃ m', m' < m ∧ W (i + 1) m' H') ∧ ∀ x H', J.yld i H x H' → g x (wipe σ vs) H' fun σ2 H2 => wipe σ2 vs = wipe σ vs ∧ tt σ2 H2 fun b H3 =>
        if b = true then te σ2 H3 fun y H4 => ∃ acc, H4 D = some (.lst acc) ∧ acc.length < sizeLine ∧ Nx (upd H4 D (.lst (acc ++ [y]))) else Nx H3) := by
  refine lc_it w (fun i H => accP S H1 D ((sel.take i).filterMap id) H) ⟨same_upd nD, [], upd_same, .nil⟩ (fun i H _ p => hG H p.1) ?_ ?_
  · rintro i x H H' hi h y
    have ho : sel[i]? = some (sel[i]'(by omega)) := List.getElem?_eq_getElem (by omega)
    obtain ⟨s, ys, hD, hy⟩ := id h
    exact hs i _ H x H' hi ho s ((hS.same s).cons hD) y (fun o H4 => match o with
      | some y => ∃ acc, H4 D = some (.lst acc) ∧ acc.length < sizeLine ∧ accP S H1 D ((sel.take (i + 1)).filterMap id) (upd H4 D (.lst (acc ++ [y])))
      | none => accP S H1 D ((sel.take (i + 1)).filterMap id) H4) fun y H4 s4 hO => acc_step nD ho (by omega) h s4 y hO
  · rintro H h
    rw [← hlen, List.take_length] at h
    refine hd H h.1 ?_ (acc_end hS nD h)
    obtain ⟨_, ys, hD, _⟩ := h
    rw [hD]
    exact fun z => nomatch z
theorem dt_pairs {K : PySem.W.Frag} {H : Hp} {a : Addr} {ps : List (Int × Int)} (h : Dt H (.ref a) (.list (ps.map pairD))) : PairsAt K H a ps := by
  cases h with
  | lst ha hx =>
    rename_i xs
    have key : ∀ (ps : List (Int × Int)) (xs : List V), DtA H xs (ps.map pairD) → ∃ as : List Addr, xs = as.map V.ref ∧ as.length = ps.length ∧ ∀ (i : Nat) (t : Addr) (p : Int × Int), as[i]? = some t → ps[i]? = some p → SqT K H t [.int p.1, .int p.2] := fun ps => by
      induction ps with
      | nil => intro xs h; cases h; exact ⟨[], rfl, rfl, fun i t p ht => by simp at ht⟩
      | cons p ps ih =>
        intro xs h
        cases h with
        | cons b c =>
          obtain ⟨as, rfl, hl, k⟩ := ih _ c
          obtain ⟨t, ys, rfl, ht, hy⟩ := (show Dt H _ (.tuple [.int p.1, .int p.2]) from b).tupE
          rw [DtA.intsE (ns := [p.1, p.2]) hy] at ht
          refine ⟨t :: as, rfl, by rw [List.length_cons, List.length_cons, hl], fun i u q hu hq => ?_⟩
          cases i with
          | zero =>
            rw [List.getElem?_cons_zero] at hu hq
            cases hu
            cases hq
            exact .inl (.inl ht)
          | succ i =>
            rw [List.getElem?_cons_succ] at hu hq
            exact k i u q hu hq
    obtain ⟨as, rfl, hl, k⟩ := key ps xs hx
    exact ⟨as, .inl (.inl ha), hl, k⟩
end My

namespace My
theorem getD_of {l : List Int} {i : Nat} (h : i < l.length) : l.getD i 0 = l[i] := by
  rw [List.getD_eq_getElem?_getD, List.getElem?_eq_getElem h]
  rfl
/-! ### guesses, rests, in plain terms -/
def dot : List Int → List Int → Int
  | w :: ws, b :: bs => w * b + dot ws bs
  | _, _ => 0
theorem dot_nil (ws : List Int) : dot ws [] = 0 := by cases ws <;> rfl
theorem dot_take : ∀ (i : Nat) (ws bs : List Int), i < ws.length → i < bs.length → dot (ws.take (i + 1)) bs = dot (ws.take i) bs + ws.getD i 0 * bs.getD i 0
  | 0, w :: ws, b :: bs, _, _ => by simp [dot]
  | i + 1, w :: ws, b :: bs, h1, h2 => by
    have ih := dot_take i ws bs (by simpa using h1) (by simpa using h2)
    show w * b + dot (ws.take (i + 1)) bs = w * b + dot (ws.take i) bs + ws.getD i 0 * bs.getD i 0
    rw [ih]
    omega
  | _, [], _, h, _ => by simp at h
  | _, _ :: _, [], _, h => by simp at h
/-- only as many items as there are weights count -/
theorem dot_long : ∀ (ws bs cs : List Int), ws.length ≤ bs.length → dot ws (bs ++ cs) = dot ws bs
  | [], _, _, _ => rfl
  | w :: ws, b :: bs, cs, h => by
    show w * b + dot ws (bs ++ cs) = w * b + dot ws bs
    rw [dot_long ws bs cs (by simpa using h)]
  | _ :: _, [], _, h => by simp at h
def guessF (ws : List Int) (sh : Nat) (pre : List Int) : Int := dot ws pre.reverse / 2 ^ sh
theorem guess_end (ws : List Int) (sh : Nat) (pre : List Int) (k : Nat) (h : k + ws.length ≤ pre.length) : guessF ws sh (pre.drop k) = guessF ws sh pre := by
  unfold guessF
  have e : pre.reverse = (pre.drop k).reverse ++ (pre.take k).reverse := by rw [← List.reverse_append, List.take_append_drop]
  rw [e, dot_long]
  rw [List.length_reverse, List.length_drop]
  omega
/-- the rest at a place -/
def restAt (ws : List Int) (sh : Nat) (row : List Int) (p : Nat) : Int := row.getD p 0 - (if p < ws.length then 0 else guessF ws sh (row.take p))
def toldR (ws : List Int) (sh : Nat) (row : List Int) : List Int := (List.range row.length).map (restAt ws sh row)
theorem toldR_len (ws : List Int) (sh : Nat) (row : List Int) : (toldR ws sh row).length = row.length := by
  unfold toldR
  rw [List.length_map, List.length_range]
theorem toldR_firsts (ws : List Int) (sh : Nat) (row : List Int) (k : Nat) (hk : k ≤ ws.length) : (toldR ws sh row).take k = row.take k := by
  apply List.ext_getElem?
  intro i
  rw [List.getElem?_take, List.getElem?_take]
  by_cases h : i < k
  · rw [if_pos h, if_pos h]
    unfold toldR
    rw [List.getElem?_map]
    by_cases h2 : i < row.length
    · rw [List.getElem?_range h2]
      show some (row.getD i 0 - if i < ws.length then 0 else _) = row[i]?
      rw [if_pos (by omega), Int.sub_zero, List.getElem?_eq_getElem h2, getD_of h2]
    · rw [List.getElem?_eq_none (by rw [List.length_range]; omega), List.getElem?_eq_none (by omega)]
      rfl
  · rw [if_neg h, if_neg h]
theorem toldR_next (ws : List Int) (sh : Nat) (row : List Int) (p : Nat) (h1 : ws.length ≤ p) (h2 : p < row.length) : (toldR ws sh row).take (p + 1) = (toldR ws sh row).take p ++ [row.getD p 0 - guessF ws sh (row.take p)] := by
  rw [List.take_add_one]
  congr 1
  unfold toldR
  rw [List.getElem?_map, List.getElem?_range h2]
  show [restAt ws sh row p] = _
  unfold restAt
  rw [if_neg (by omega)]
def wrapI (n : Int) (d : Nat) : Int := (n + 2 ^ (d - 1)) % (2 * 2 ^ (d - 1)) - 2 ^ (d - 1)
def restsF (ws : List Int) (sh : Nat) (d : Nat) (row : List Int) : List Int := (toldR ws sh row).map fun n => wrapI n d
def Samples (d : Nat) (row : List Int) : Prop := ∀ n ∈ row, -(2 ^ (d - 1)) ≤ n ∧ n ≤ 2 ^ (d - 1) - 1
def Weights (ws : List Int) : Prop := ws.length ≤ 8 ∧ ∀ n ∈ ws, -32768 ≤ n ∧ n ≤ 32768
end My

namespace My
open PySem PySem.Spec PyProof.Rows L2 Pre
/-- an instance: isinstance of its class -/
theorem tyx_ins {K : PySem.W.Frag} {H : Hp} {a C dx : Addr} {fs : List (Str × V)} (c : C8.InsC K C) (h : H a = some (.ins C dx fs)) : TyX K H (.ref a) (.ref C) := .base (.ins h c.cl c.ha c.hn c.htk c.hm)
theorem rd_list {K : PySem.W.Frag} {H : Hp} {a : Addr} {xs : List V} (h : Rd H a (.lst xs)) : TyX K H (.ref a) (.type "list") := by
  rcases h with h | ⟨o, h⟩
  · exact .base (.lst h)
  · exact .base (.frz h)
theorem Rd.same {H H' : Hp} {a : Addr} {u : HO} (h : Rd H a u) (s : Same H H') : Rd H' a u := by
  rcases h with h | ⟨o, h⟩
  · exact .inl (s _ _ h)
  · exact .inr ⟨o, s _ _ h⟩
theorem small_row {ns : List Int} (h : ns.length ≤ 1000) : (ns.map V.int).length < sizeLine := by
  rw [List.length_map]
  exact small1000 h
section
variable {P : Program} {w : World} {K : PySem.W.Frag} {mg : Str → Option Value} {base : Heap}
/-! ### checks -/
def sp_check_depth : Sp := fun vs H Q _ => ∃ d m : Int, vs = [.int d, .int m] ∧ 1 ≤ d ∧ d ≤ m ∧ Q .non H
theorem G_check_depth (T : Top K mg) : FnOk P w K mg base CX0 3 T.f_check_depth T.fd_check_depth ["depth", "most"] sp_check_depth := by
  refine T.F_check_depth.ok sc_check_depth (fun vs H Q E h => by obtain ⟨d, m, rfl, _⟩ := h; rfl) (fun cdv A outer s H vs Q E hr h => ?_)
  obtain ⟨d, m, rfl, h0, h1, q⟩ := h
  refine ⟨_, PSs.nox (pss_one (ps_if (pt_not (pt_val (pe_call (G_is_between (P := P) T) (hr.mono (by decide)) (by rfl) T.g_is_between T.F_is_between.kp T.b_is_between .nil pass0 (pa_cons (pv 0) (pa_cons pe_int (pa_cons (pv 1) pa_nil))))))
    (pss_one ps_never)
    pss_nil)), ?_⟩
  refine ⟨_, rfl, _, rfl, d, 1, some m, rfl, _, rfl, ?_⟩
  rw [decide_eq_true ⟨h0, fun j h => by cases h; exact h1⟩]
  exact iteF q
def sp_is_sample : Sp := fun vs H Q _ => ∃ (n : Int) (d : Nat), vs = [.int n, .int d] ∧ 1 ≤ d ∧ d ≤ 1000 ∧ Q (.bl (decide (-(2 ^ (d - 1)) ≤ n ∧ n ≤ 2 ^ (d - 1) - 1))) H
theorem pred_toNat {d : Nat} (h : 1 ≤ d) : ((d : Int) - 1).toNat = d - 1 := by omega
theorem G_is_sample (T : Top K mg) : FnOk P w K mg base CX0 3 T.f_is_sample T.fd_is_sample ["value", "depth"] sp_is_sample := by
  refine T.F_is_sample.ok sc_is_sample (fun vs H Q E h => by obtain ⟨n, d, rfl, _⟩ := h; rfl) (fun cdv A outer s H vs Q E hr h => ?_)
  obtain ⟨n, d, rfl, h0, h1, q⟩ := h
  refine ⟨_, PSs.nox (pss_one (ps_ret (pe_call (G_is_between (P := P) T) (hr.mono (by decide)) (by rfl) T.g_is_between T.F_is_between.kp T.b_is_between .nil pass0 (pa_cons (pv 0) (pa_cons (pe_op op_sub pe_int (pe_op op_shl pe_int (pe_op op_sub (pv 1) pe_int))) (pa_cons (pe_op op_sub (pe_op op_shl pe_int (pe_op op_sub (pv 1) pe_int)) pe_int) pa_nil)))))), ?_⟩
  refine ⟨_, rfl, _, rfl, _, _, rfl, rfl, _, _, rfl, rfl, ⟨by omega, by omega, by decide⟩, _, _, rfl, rfl, _, rfl, _, _, rfl, rfl, _, _, rfl, rfl, ⟨by omega, by omega, by decide⟩, _, _, rfl, rfl, n, 0 - 1 * 2 ^ ((d : Int) - 1).toNat, some (1 * 2 ^ ((d : Int) - 1).toNat - 1), rfl, ?_⟩
  have e : decide (0 - 1 * 2 ^ ((d : Int) - 1).toNat ≤ n ∧ ∀ j, some (1 * 2 ^ ((d : Int) - 1).toNat - 1 : Int) = some j → n ≤ j) = decide (-(2 ^ (d - 1)) ≤ n ∧ n ≤ 2 ^ (d - 1) - 1) := by
    rw [pred_toNat h0, Int.one_mul]
    refine decide_eq_decide.mpr ⟨fun ⟨a, b⟩ => ⟨by omega, b _ rfl⟩, fun ⟨a, b⟩ => ⟨by omega, fun j h => by cases h; exact b⟩⟩
  rw [e]
  exact q
/-- a list of samples of a depth -/
def sp_are_samples (K : PySem.W.Frag) : Sp := fun vs H Q _ => ∃ (a : Addr) (ns : List Int) (d : Nat), vs = [.ref a, .int d] ∧ Rd H a (.lst (ns.map V.int)) ∧ Samples d ns ∧ ns.length ≤ 1000 ∧ 1 ≤ d ∧ d ≤ 1000 ∧ ∀ H', Same H H' → Q (.bl true) H'
theorem fm_none {α β : Type} (l : List α) : (l.map fun _ => (none : Option β)).filterMap id = [] := by
  induction l with
  | nil => rfl
  | cons n r ih => simp
theorem G_are_samples (T : Top K mg) : FnOk P w K mg base CX0 4 T.f_are_samples T.fd_are_samples ["value", "depth"] (sp_are_samples K) := by
  refine T.F_are_samples.ok sc_are_samples (fun vs H Q E h => by obtain ⟨a, ns, d, rfl, _⟩ := h; rfl) (fun cdv A outer s H vs Q E hr h => ?_)
  obtain ⟨a, ns, d, rfl, hA, hs, hl, h0, h1, q⟩ := h
  refine ⟨_, PSs.nox (pss_one (ps_ret (pe_and (pe_callB (k_isi K rfl) (by rfl) T.n_isinstance (by decide +kernel) (pa_cons (pv 0) (pa_cons (pe_bltn (v := .ty "list") (by rfl) T.n_list (by decide +kernel) rfl) pa_nil))) (pe_one (pe_cmpR (k_eqD K rfl hr.units) (pe_lc (own := [("item", 2)]) (g := gName 2) (by rfl) sc_are_samples.nd (k_piL K rfl (pv 0)) (blkOk_by (own := [("item", 2)]) (N := N_are_samples) (sc := defScope s_are_samples) (by decide +kernel)) (fun _ _ _ _ _ => (pg_name (i := 2) sc_are_samples.nd rfl (by first | exact Or.inl rfl | exact Or.inr rfl))) (fun _ _ _ _ _ => (pts_one (pt_not (pt_val (pe_call (G_is_sample (P := P) T) (hr.mono (by decide)) (by rfl) T.g_is_sample T.F_is_sample.kp T.b_is_sample .nil pass0 (pa_cons (pv 2) (pa_cons (pv 1) pa_nil))))))) (fun _ _ _ _ _ => (pv 2))) (pe_lst pa_nil) (nomark _)))))), ?_⟩
  have hS : SqL K H a (ns.map V.int) := .inl hA
  refine ⟨_, rfl, _, _, _, _, true, rfl, .ty _, rd_list hA, kit_ty (by decide +kernel), true, rfl, iteT ?_⟩
  refine ⟨_, rfl, a, rfl, ⟨_, hS⟩, fun D nD => ?_⟩
  refine lc_selL (K := K) (xs := ns.map V.int) (ns.map fun _ => none) nD hS (by rw [List.length_map, List.length_map]) (small_row hl) (fun x => rfl) ?_ ?_
  · intro i x o H' hx ho s Qt qt
    obtain ⟨n, hn, rfl⟩ := int_at hx
    rw [List.getElem?_map, hn] at ho
    cases ho
    refine ⟨_, rfl, _, rfl, n, d, rfl, h0, h1, _, rfl, ?_⟩
    rw [decide_eq_true (hs n (List.mem_of_getElem? hn))]
    exact iteF (qt _ (Same.refl _))
  · intro H' s hD
    rw [fm_none] at hD
    refine ⟨Nat.zero_le _, fun p np => ?_⟩
    refine eq_lst (ns := []) (.inl (.inl (same_upd np _ _ hD))) (.inl (.inl upd_same)) ?_
    exact q _ (s.trans (same_upd np))
def sp_wrapped : Sp := fun vs H Q _ => ∃ (n : Int) (d : Nat), vs = [.int n, .int d] ∧ 1 ≤ d ∧ d ≤ 64 ∧ Q (.int (wrapI n d)) H
theorem G_wrapped (T : Top K mg) : FnOk P w K mg base CX0 1 T.f_wrapped T.fd_wrapped ["number", "depth"] sp_wrapped := by
  refine T.F_wrapped.ok sc_wrapped (fun vs H Q E h => by obtain ⟨n, d, rfl, _⟩ := h; rfl) (fun cdv A outer s H vs Q E hr h => ?_)
  obtain ⟨n, d, rfl, h0, h1, q⟩ := h
  refine ⟨_, PSs.nox (pss_cons (ps_set (i := 2) sc_wrapped.nd rfl (by first | exact Or.inl rfl | exact Or.inr rfl) (pe_op op_shl pe_int (pe_op op_sub (pv 1) pe_int)))
  (pss_one (ps_ret (pe_op op_sub (pe_op op_mod (pe_op op_add (pv 0) (pv 2)) (pe_op op_mul pe_int (pv 2))) (pv 2))))), ?_⟩
  refine ⟨_, rfl, _, _, rfl, rfl, _, _, rfl, rfl, ⟨by omega, by omega, by decide⟩, ?_⟩
  have hp := pow_pos' (d - 1)
  have e : (1 : Int) * 2 ^ ((d : Int) - 1).toNat = 2 ^ (d - 1) := by rw [pred_toNat h0, Int.one_mul]
  dsimp only
  rw [e]
  refine ⟨_, rfl, _, rfl, _, _, rfl, rfl, _, rfl, _, _, rfl, rfl, .inl ⟨by decide, by decide⟩, _, _, rfl, rfl, (by show (0 : Int) < _; omega), _, rfl, _, _, rfl, rfl, ?_⟩
  exact q
/-! ### guessers -/
/-- a guesser of the weights ws and the shift sh -/
def GuesserAt (C : Addr) (H : Hp) (a : Addr) (ws : List Int) (sh : Nat) : Prop := Weights ws ∧ sh ≤ 15 ∧ ∃ dx p, H a = some (.ins C dx [("parts", .ref p), ("down", .int sh)]) ∧ H p = some (.lst (ws.map V.int))
theorem GuesserAt.same {C : Addr} {H H' : Hp} {a : Addr} {ws : List Int} {sh : Nat} (h : GuesserAt C H a ws sh) (s : Same H H') : GuesserAt C H' a ws sh := by
  obtain ⟨h1, h2, dx, p, h3, h4⟩ := h
  exact ⟨h1, h2, dx, p, s _ _ h3, s _ _ h4⟩
def sp_Guesser___init__ (C : Addr) (K : PySem.W.Frag) : Sp := fun vs H Q _ => ∃ (x a dx : Addr) (ws : List Int) (sh : Nat), vs = [.ref x, .ref a, .int sh] ∧ H x = some (.ins C dx []) ∧ Rd H a (.lst (ws.map V.int)) ∧ Weights ws ∧ sh ≤ 15 ∧
  ∀ H', (∀ b o, b ≠ x → H b = some o → H' b = some o) → GuesserAt C H' x ws sh → (∃ dx p, H' x = some (.ins C dx [("parts", .ref p), ("down", .int sh)]) ∧ H p = none) → Q .non H'
theorem G_Guesser___init__ (T : Top K mg) : FnOk P w K mg base CX0 3 T.f_Guesser___init__ T.fd_Guesser___init__ ["self", "weights", "shift"] (sp_Guesser___init__ T.C_Guesser K) := by
  refine T.F_Guesser___init__.ok sc_Guesser___init__ (fun vs H Q E h => by obtain ⟨x, a, dx, ws, sh, rfl, _⟩ := h; rfl) (fun cdv A outer s H vs Q E hr h => ?_)
  obtain ⟨x, a, dx, ws, sh, rfl, hx, hA, hW, hsh, q⟩ := h
  refine ⟨_, PSs.nox (pss_cons (ps_if (PW.pt (pw_or (pt_not (pt_val (pe_callB (k_isi K rfl) (by rfl) T.n_isinstance (by decide +kernel) (pa_cons (pv 1) (pa_cons (pe_bltn (v := .ty "list") (by rfl) T.n_list (by decide +kernel) rfl) pa_nil))))) (pw_or1 (pt_cmpR op_gt (pe_callB (k_len K rfl) (by rfl) T.n_len (by decide +kernel) (pa_cons (pv 1) pa_nil)) (pe_glob (v := .int 8) rfl T.m_MOST_ORDER ⟨_, rfl⟩) (nomark _)))))
    (pss_one ps_never)
    pss_nil)
  (pss_cons (ps_for PassesOwn.never rfl (k_piL K rfl (pv 1)) (pg_name (i := 3) sc_Guesser___init__.nd rfl (by first | exact Or.inl rfl | exact Or.inr rfl))
    (pss_one (ps_if (pt_not (pt_val (pe_call (G_is_between (P := P) T) (hr.mono (by decide)) (by rfl) T.g_is_between T.F_is_between.kp T.b_is_between .nil pass0 (pa_cons (pv 3) (pa_cons (pe_un un_neg (pe_glob (v := .int 32768) rfl T.m_MOST_WEIGHT ⟨_, rfl⟩)) (pa_cons (pe_glob (v := .int 32768) rfl T.m_MOST_WEIGHT ⟨_, rfl⟩) pa_nil))))))
    (pss_one ps_never)
    pss_nil)))
  (pss_cons (ps_if (pt_not (pt_val (pe_call (G_is_between (P := P) T) (hr.mono (by decide)) (by rfl) T.g_is_between T.F_is_between.kp T.b_is_between .nil pass0 (pa_cons (pv 2) (pa_cons pe_int (pa_cons (pe_glob (v := .int 15) rfl T.m_MOST_SHIFT ⟨_, rfl⟩) pa_nil))))))
    (pss_one ps_never)
    pss_nil)
  (pss_cons (ps_fld (pv 0) (pe_callTy (k_listOf K rfl) (by rfl) T.n_list (by decide +kernel) (pa_cons (pv 1) pa_nil)) rfl)
  (pss_one (ps_fld (pv 0) (pv 2) rfl)))))), ?_⟩
  have hS : SqL K H a (ws.map V.int) := .inl hA
  refine ⟨_, rfl, _, _, _, _, true, rfl, .ty _, rd_list hA, kit_ty (by decide +kernel), true, rfl, iteF ?_⟩
  refine ⟨_, rfl, a, _, rfl, .inl hS, _, _, rfl, rfl, _, rfl, ?_⟩
  rw [List.length_map, decide_eq_false (show ¬ (ws.length : Int) > 8 by have := hW.1; omega)]
  refine iteF ?_
  -- for weight in weights
  refine ⟨_, rfl, a, rfl, ⟨_, hS⟩, for_list (K := K) (a := a) (xs := ws.map V.int) (fun i σ H1 => ∃ v, σ = [some (.ref x), some (.ref a), some (.int sh), v] ∧ H1 = H) ⟨none, rfl, rfl⟩ (fun i σ H1 _ ⟨_, _, e⟩ => by rw [e]; exact hS) ?_ ?_⟩
  · rintro i v σ H1 hv ⟨v3, rfl, rfl⟩
    obtain ⟨n, hn, rfl⟩ := int_at hv
    have hb := hW.2 n (List.mem_of_getElem? hn)
    refine ⟨_, rfl, _, rfl, n, -32768, some 32768, rfl, _, rfl, ?_⟩
    rw [decide_eq_true ⟨hb.1, fun j h => by cases h; exact hb.2⟩]
    exact iteF ⟨_, rfl, rfl⟩
  · rintro σ H1 ⟨v3, rfl, rfl⟩
    refine ⟨_, rfl, (sh : Int), 0, some 15, rfl, _, rfl, ?_⟩
    rw [decide_eq_true ⟨by omega, fun j h => by cases h; omega⟩]
    refine iteF ?_
    -- self.parts = list(weights)
    refine ⟨_, rfl, a, _, rfl, .inl hS, fun p np => ?_⟩
    have npx : p ≠ x := (ne_of_none hx np).symm
    have hx1 : (upd H1 p (.lst (ws.map V.int))) x = some (.ins T.C_Guesser dx []) := same_upd np _ _ hx
    refine ⟨_, rfl, x, T.C_Guesser, dx, [], rfl, hx1, T.cl_Guesser, T.na_Guesser_parts, by decide, ?_⟩
    refine ⟨_, rfl, _, rfl, x, T.C_Guesser, dx, _, rfl, upd_same, T.cl_Guesser, T.na_Guesser_down, (by show 1 < 1000; decide), ?_⟩
    refine q _ (fun b o nb hb => ?_) ⟨hW, hsh, dx, p, ?_, ?_⟩ ⟨dx, p, ?_, np⟩
    · rw [upd_ne nb, upd_ne nb]
      exact same_upd np _ _ hb
    · rw [upd_same]
      rfl
    · rw [upd_ne npx, upd_ne npx, upd_same]
    · rw [upd_same]
      rfl
/-- a guesser that no change of g touches -/
def GuesserBut (C g : Addr) (H : Hp) (a : Addr) (ws : List Int) (sh : Nat) : Prop := ∀ H', But g H H' → GuesserAt C H' a ws sh
theorem GuesserBut.of {C g x : Addr} {H H' : Hp} {ws : List Int} {sh n : Nat} (hG : GenAt H g n) (nx : x ≠ g) (h : GuesserAt C H' x ws sh) (k : ∃ dx p, H' x = some (.ins C dx [("parts", .ref p), ("down", .int sh)]) ∧ H p = none) : GuesserBut C g H' x ws sh := by
  obtain ⟨hW, hs, dx, p, h1, h2⟩ := h
  obtain ⟨dx', p', h3, h4⟩ := k
  rw [h1] at h3
  cases h3
  exact fun H2 b => ⟨hW, hs, dx, p, b _ _ nx h1, b _ _ (hG.ne h4) h2⟩
theorem GuesserBut.but {C g x : Addr} {H H' : Hp} {ws : List Int} {sh : Nat} (h : GuesserBut C g H x ws sh) (b : But g H H') : GuesserBut C g H' x ws sh := fun H2 b2 => h H2 (b.trans b2)
def sp_check_guesser (C : Addr) : Sp := fun vs H Q _ => ∃ (a : Addr) (ws : List Int) (sh : Nat), vs = [.ref a] ∧ GuesserAt C H a ws sh ∧ Q .non H
theorem G_check_guesser (T : Top K mg) : FnOk P w K mg base CX0 1 T.f_check_guesser T.fd_check_guesser ["value"] (sp_check_guesser T.C_Guesser) := by
  refine T.F_check_guesser.ok sc_check_guesser (fun vs H Q E h => by obtain ⟨a, ws, sh, rfl, _⟩ := h; rfl) (fun cdv A outer s H vs Q E hr h => ?_)
  obtain ⟨a, ws, sh, rfl, hG, q⟩ := h
  refine ⟨_, PSs.nox (pss_one (ps_if (pt_not (pt_val (pe_callB (k_isi K rfl) (by rfl) T.n_isinstance (by decide +kernel) (pa_cons (pv 0) (pa_cons (pe_glob (v := .ref T.C_Guesser) rfl T.gc_Guesser rfl) pa_nil)))))
    (pss_one ps_never)
    pss_nil)), ?_⟩
  obtain ⟨_, _, dx, p, ha, _⟩ := hG
  refine ⟨_, rfl, _, _, _, _, true, rfl, .own _, tyx_ins T.ic_Guesser ha, T.ic_Guesser.me, true, rfl, iteF ?_⟩
  exact q
def sp_check_row (K : PySem.W.Frag) : Sp := fun vs H Q _ => ∃ (a : Addr) (ns : List Int) (d : Nat), vs = [.int d, .ref a] ∧ Rd H a (.lst (ns.map V.int)) ∧ Samples d ns ∧ ns.length ≤ 1000 ∧ 1 ≤ d ∧ d ≤ 1000 ∧ ∀ H', Same H H' → Q .non H'
theorem G_check_row (T : Top K mg) : FnOk P w K mg base CX0 5 T.f_check_row T.fd_check_row ["depth", "value"] (sp_check_row K) := by
  refine T.F_check_row.ok sc_check_row (fun vs H Q E h => by obtain ⟨a, ns, d, rfl, _⟩ := h; rfl) (fun cdv A outer s H vs Q E hr h => ?_)
  obtain ⟨a, ns, d, rfl, hA, hs, hl, h0, h1, q⟩ := h
  refine ⟨_, PSs.nox (pss_one (ps_if (pt_not (pt_val (pe_call (G_are_samples (P := P) T) (hr.mono (by decide)) (by rfl) T.g_are_samples T.F_are_samples.kp T.b_are_samples .nil pass0 (pa_cons (pv 1) (pa_cons (pv 0) pa_nil)))))
    (pss_one ps_never)
    pss_nil)), ?_⟩
  refine ⟨_, rfl, _, rfl, a, ns, d, rfl, hA, hs, hl, h0, h1, fun H1 s1 => ⟨_, rfl, iteF ?_⟩⟩
  exact q _ s1
theorem cut_get {bs : List Int} {i n : Nat} (h : i < n) (hn : n = bs.length) : (bs.map V.int)[n - 1 - i]? = some (.int (bs.reverse.getD i 0)) := by
  subst hn
  rw [List.getElem?_map, List.getElem?_eq_getElem (show bs.length - 1 - i < bs.length by omega)]
  have h2 : i < bs.reverse.length := by rw [List.length_reverse]; exact h
  rw [getD_of h2, List.getElem_reverse]
  rfl
def sp_sum_before (C : Addr) (K : PySem.W.Frag) : Sp := fun vs H Q _ => ∃ (a b : Addr) (ws : List Int) (sh : Nat) (bs : List Int), vs = [.ref a, .ref b] ∧ GuesserAt C H a ws sh ∧ SqL K H b (bs.map V.int) ∧ ws.length ≤ bs.length ∧ ∀ H', Same H H' → Q (.int (dot ws bs.reverse)) H'
theorem G_sum_before (T : Top K mg) : FnOk P w K mg base CX0 1 T.f_sum_before T.fd_sum_before ["guesser", "before"] (sp_sum_before T.C_Guesser K) := by
  refine T.F_sum_before.ok sc_sum_before (fun vs H Q E h => by obtain ⟨a, b, ws, sh, bs, rfl, _⟩ := h; rfl) (fun cdv A outer s H vs Q E hr h => ?_)
  obtain ⟨a, b, ws, sh, bs, rfl, hG, hB, hl, q⟩ := h
  refine ⟨_, PSs.nox (pss_cons (ps_set (i := 2) sc_sum_before.nd rfl (by first | exact Or.inl rfl | exact Or.inr rfl) pe_int)
  (pss_cons (ps_for PassesOwn.never rfl (k_piE K rfl (by rfl) T.n_enumerate (pa_cons (pe_fld (pv 0) rfl) pa_nil)) (k_pgT K rfl (by rfl) (pgs_cons (pg_name (i := 3) sc_sum_before.nd rfl (by first | exact Or.inl rfl | exact Or.inr rfl)) (pgs_cons (pg_name (i := 4) sc_sum_before.nd rfl (by first | exact Or.inl rfl | exact Or.inr rfl)) pgs_nil)))
    (pss_one (ps_set (i := 2) sc_sum_before.nd rfl (by first | exact Or.inl rfl | exact Or.inr rfl) (pe_op op_add (pv 2) (pe_op op_mul (pv 4) (pe_ix (k_ixL K rfl) (pv 1) (pe_op op_sub (pe_op op_sub (pe_callB (k_len K rfl) (by rfl) T.n_len (by decide +kernel) (pa_cons (pv 1) pa_nil)) pe_int) (pv 3)) (fun _ _ => rfl)))))))
  (pss_one (ps_ret (pv 2))))), ?_⟩
  obtain ⟨hW, _, dx, p, ha, hp⟩ := id hG
  have hP : SqL K H p (ws.map V.int) := .inl (.inl hp)
  refine ⟨_, rfl, a, T.C_Guesser, dx, _, _, rfl, ha, T.cl_Guesser, T.na_Guesser_parts, rfl, p, _, rfl, hP, ?_⟩
  refine for_it (walk_enum (K := K) (a := p) (xs := ws.map V.int)) (fun i σ H1 => ∃ v3 v4, σ = [some (.ref a), some (.ref b), some (.int (dot (ws.take i) bs.reverse)), v3, v4] ∧ Same H H1) ⟨none, none, ?_, Same.refl _⟩ (fun i σ H1 _ ⟨_, _, _, s⟩ => s.seq hP) ?_ ?_
  · show _ = [some (V.ref a), some (V.ref b), some (V.int (dot [] bs.reverse)), none, none]
    rfl
  · rintro i x σ H1 H2 hi ⟨v3, v4, rfl, s1⟩ ⟨t, y, z, rfl, nt, rfl, ey, ez⟩
    cases ey
    obtain ⟨n, hn, rfl⟩ := int_at ez
    rw [List.length_map] at hi
    have s2 : Same H1 (upd H1 t (.tup [.int (i : Nat), .int n])) := same_upd nt
    have hB2 := (s1.trans s2).seq hB
    refine ⟨t, _, rfl, .inl (.inl upd_same), rfl, _, _, rfl, _, _, rfl, rfl, ?_⟩
    have hb := hW.2 n (List.mem_of_getElem? hn)
    have en : n = ws.getD i 0 := by rw [List.getD_eq_getElem?_getD, hn]; rfl
    refine ⟨_, rfl, _, rfl, _, rfl, _, rfl, b, _, rfl, .inl hB2, _, _, rfl, rfl, _, rfl, _, _, rfl, rfl, b, _, _, .int (bs.reverse.getD i 0), rfl, rfl, hB2, at_of (j := bs.length - 1 - i) (by rw [List.length_map]; omega) (cut_get (show i < bs.length by omega) rfl), _, _, rfl, rfl, .inl ⟨by omega, by omega⟩, _, _, rfl, rfl, ?_⟩
    refine ⟨some (.int (i : Nat)), some (.int n), ?_, s1.trans s2⟩
    rw [dot_take i ws bs.reverse hi (by rw [List.length_reverse]; omega), ← en]
    rfl
  · rintro σ H1 ⟨v3, v4, rfl, s1⟩
    rw [List.length_map, List.take_length]
    exact ⟨_, rfl, q _ s1⟩
def sp_guess_behind (C : Addr) (K : PySem.W.Frag) : Sp := fun vs H Q _ => ∃ (a b : Addr) (ws : List Int) (sh : Nat) (bs : List Int), vs = [.ref a, .ref b] ∧ GuesserAt C H a ws sh ∧ SqL K H b (bs.map V.int) ∧ ws.length ≤ bs.length ∧ ∀ H', Same H H' → Q (.int (guessF ws sh bs)) H'
theorem G_guess_behind (T : Top K mg) : FnOk P w K mg base CX0 2 T.f_guess_behind T.fd_guess_behind ["guesser", "before"] (sp_guess_behind T.C_Guesser K) := by
  refine T.F_guess_behind.ok sc_guess_behind (fun vs H Q E h => by obtain ⟨a, b, ws, sh, bs, rfl, _⟩ := h; rfl) (fun cdv A outer s H vs Q E hr h => ?_)
  obtain ⟨a, b, ws, sh, bs, rfl, hG, hB, hl, q⟩ := h
  refine ⟨_, PSs.nox (pss_one (ps_ret (pe_op op_shr (pe_call (G_sum_before (P := P) T) (hr.mono (by decide)) (by rfl) T.g_sum_before T.F_sum_before.kp T.b_sum_before .nil pass0 (pa_cons (pv 0) (pa_cons (pv 1) pa_nil))) (pe_fld (pv 0) rfl)))), ?_⟩
  refine ⟨_, rfl, _, rfl, a, b, ws, sh, bs, rfl, hG, hB, hl, fun H1 s1 => ?_⟩
  obtain ⟨hW, _, dx, p, ha, hp⟩ := hG.same s1
  refine ⟨_, rfl, a, T.C_Guesser, dx, _, _, rfl, ha, T.cl_Guesser, T.na_Guesser_down, rfl, _, _, rfl, rfl, by omega, ?_⟩
  dsimp only
  rw [Int.toNat_natCast]
  exact q _ s1
theorem cut_mid (xs : List V) (i j : Nat) (h1 : i ≤ j) (h2 : j ≤ xs.length) : cutV xs (some (i : Int)) (some (j : Int)) = (xs.take j).drop i := by
  unfold cutV
  rw [HT.sIx_nat, HT.sIx_nat, Nat.min_eq_left h2, Nat.min_eq_left (Nat.le_trans h1 h2), List.drop_take]
def sp_told_rests (C : Addr) (K : PySem.W.Frag) : Sp := fun vs H Q _ => ∃ (a b : Addr) (ws : List Int) (sh : Nat) (row : List Int), vs = [.ref a, .ref b] ∧ GuesserAt C H a ws sh ∧ SqL K H b (row.map V.int) ∧ row.length ≤ 1000 ∧
  ∀ H' p, Same H H' → H p = none → H' p = some (.lst ((toldR ws sh row).map V.int)) → Q (.ref p) H'
theorem G_told_rests (T : Top K mg) : FnOk P w K mg base CX0 3 T.f_told_rests T.fd_told_rests ["guesser", "row"] (sp_told_rests T.C_Guesser K) := by
  refine T.F_told_rests.ok sc_told_rests (fun vs H Q E h => by obtain ⟨a, b, ws, sh, row, rfl, _⟩ := h; rfl) (fun cdv A outer s H vs Q E hr h => ?_)
  obtain ⟨a, b, ws, sh, row, rfl, hG, hB, hl, q⟩ := h
  refine ⟨_, PSs.nox (pss_cons (ps_set (i := 2) sc_told_rests.nd rfl (by first | exact Or.inl rfl | exact Or.inr rfl) (pe_callB (k_len K rfl) (by rfl) T.n_len (by decide +kernel) (pa_cons (pe_fld (pv 0) rfl) pa_nil)))
  (pss_cons (ps_set (i := 3) sc_told_rests.nd rfl (by first | exact Or.inl rfl | exact Or.inr rfl) (pe_callTy (k_listOf K rfl) (by rfl) T.n_list (by decide +kernel) (pa_cons (pe_slice (k_slL K rfl) (pv 1) po_none (po_some (pv 2))) pa_nil)))
  (pss_cons (ps_for PassesOwn.never rfl (pi_range2 (by rfl) T.n_range (pa_cons (pv 2) (pa_cons (pe_callB (k_len K rfl) (by rfl) T.n_len (by decide +kernel) (pa_cons (pv 1) pa_nil)) pa_nil))) (pg_name (i := 4) sc_told_rests.nd rfl (by first | exact Or.inl rfl | exact Or.inr rfl))
    (pss_one (ps_expr (pe_bm PySem.F.plainAttrs_list PySem.F.slot_list_append PySem.F.type_list_append mt_append (pv 3) (pa_cons (pe_op op_sub (pe_ix (k_ixL K rfl) (pv 1) (pv 4) (fun _ _ => rfl)) (pe_call (G_guess_behind (P := P) T) (hr.mono (by decide)) (by rfl) T.g_guess_behind T.F_guess_behind.kp T.b_guess_behind .nil pass0 (pa_cons (pv 0) (pa_cons (pe_slice (k_slL K rfl) (pv 1) (po_some (pe_op op_sub (pv 4) (pv 2))) (po_some (pv 4))) pa_nil)))) pa_nil)))))
  (pss_one (ps_ret (pv 3)))))), ?_⟩
  obtain ⟨hW, _, dx, p, ha, hp⟩ := id hG
  have hP : SqL K H p (ws.map V.int) := .inl (.inl hp)
  refine ⟨_, rfl, a, T.C_Guesser, dx, _, _, rfl, ha, T.cl_Guesser, T.na_Guesser_parts, rfl, p, _, rfl, .inl hP, ?_⟩
  rw [List.length_map]
  refine ⟨_, rfl, _, rfl, _, rfl, b, _, rfl, hB, fun c nc => ?_⟩
  rw [cut_take, ← List.map_take]
  obtain ⟨H1, e1, s1, h1⟩ := fresh (.lst ((row.take ws.length).map V.int)) nc
  rw [e1]
  refine ⟨c, _, rfl, .inl (.inl (.inl h1)), fun f nf => ?_⟩
  obtain ⟨H2, e2, s2, h2⟩ := fresh (.lst ((row.take ws.length).map V.int)) nf
  rw [e2]
  have s12 := s1.trans s2
  have hw8 := hW.1
  refine ⟨_, rfl, _, rfl, b, _, rfl, .inl (s12.seq hB), _, _, rfl, ⟨by omega, by omega, by rw [List.length_map]; omega, by rw [List.length_map]; omega⟩, ?_⟩
  rw [List.length_map]
  have nHf : H f = none := s1.free nf
  refine for_range (lo := (ws.length : Int)) (n := ((row.length : Int) - (ws.length : Int)).toNat) (fun i σ H3 => ∃ v4, σ = [some (.ref a), some (.ref b), some (.int ws.length), some (.ref f), v4] ∧ Same H H3 ∧ H3 f = some (.lst (((toldR ws sh row).take (ws.length + i)).map V.int))) ⟨none, rfl, s12, ?_⟩ ?_ ?_
  · rw [h2, Nat.add_zero, toldR_firsts ws sh row ws.length (Nat.le_refl _)]
  · rintro i σ H3 hi ⟨v4, rfl, s3, h3⟩
    have hpl : ws.length + i < row.length := by omega
    have hB3 := s3.seq hB
    have rowAt : atI (row.map V.int) ((ws.length : Int) + (i : Int)) = some (.int (row.getD (ws.length + i) 0)) := by
      refine at_of (j := ws.length + i) (by omega) ?_
      rw [List.getElem?_map, List.getElem?_eq_getElem hpl, getD_of hpl]
      rfl
    refine ⟨_, rfl, .inl ⟨rfl, _, .inl (.inl h3)⟩, _, rfl, _, rfl, b, _, _, _, rfl, rfl, hB3, rowAt, ?_⟩
    refine ⟨_, rfl, _, rfl, _, rfl, _, rfl, _, _, rfl, rfl, _, rfl, _, rfl, _, rfl, b, _, rfl, hB3, fun c2 nc2 => ?_⟩
    have ec : cutV (row.map V.int) (some ((ws.length : Int) + (i : Int) - (ws.length : Int))) (some ((ws.length : Int) + (i : Int))) = (((row.take (ws.length + i)).drop i)).map V.int := by
      rw [show (ws.length : Int) + (i : Int) - (ws.length : Int) = (i : Int) by omega, show (ws.length : Int) + (i : Int) = ((ws.length + i : Nat) : Int) by omega, cut_mid _ _ _ (by omega) (by rw [List.length_map]; omega), List.map_drop, List.map_take]
    rw [ec]
    obtain ⟨H4, e4, s4, h4⟩ := fresh (.lst (((row.take (ws.length + i)).drop i).map V.int)) nc2
    rw [e4]
    refine ⟨a, c2, ws, sh, _, rfl, (hG.same s3).same s4, .inl (.inl h4), by rw [List.length_drop, List.length_take]; omega, fun H5 s5 => ?_⟩
    rw [guess_end ws sh (row.take (ws.length + i)) i (by rw [List.length_take]; omega)]
    have h35 := s5 _ _ (s4 _ _ h3)
    refine ⟨_, _, rfl, rfl, f, _, _, rfl, rfl, h35, ?_, ?_⟩
    · rw [List.length_map, List.length_take]
      exact Nat.lt_of_le_of_lt (Nat.min_le_right _ _) (by rw [toldR_len]; exact small1000 hl)
    · refine ⟨_, rfl, ?_, ?_⟩
      · intro z o hz
        rw [upd_ne (ne_of_none hz nHf)]
        exact s5 _ _ (s4 _ _ (s3 _ _ hz))
      · rw [upd_same, ← Nat.add_assoc, toldR_next ws sh row (ws.length + i) (by omega) hpl, List.map_append]
        rfl
  · rintro σ H3 ⟨v4, rfl, s3, h3⟩
    refine ⟨_, rfl, q _ f s3 nHf ?_⟩
    rw [h3, List.take_of_length_le]
    rw [toldR_len]
    omega
def sp_rests (C : Addr) (K : PySem.W.Frag) : Sp := fun vs H Q _ => ∃ (a b : Addr) (ws : List Int) (sh : Nat) (row : List Int) (d : Nat), vs = [.ref a, .int d, .ref b] ∧ GuesserAt C H a ws sh ∧ Rd H b (.lst (row.map V.int)) ∧ row.length ≤ 1000 ∧ Samples d row ∧ 1 ≤ d ∧ d ≤ 32 ∧
  ∀ H' p, Same H H' → H p = none → H' p = some (.lst ((restsF ws sh d row).map V.int)) → Q (.ref p) H'
theorem G_rests (T : Top K mg) : FnOk P w K mg base CX0 6 T.f_rests T.fd_rests ["guesser", "depth", "row"] (sp_rests T.C_Guesser K) := by
  refine T.F_rests.ok sc_rests (fun vs H Q E h => by obtain ⟨a, b, ws, sh, row, d, rfl, _⟩ := h; rfl) (fun cdv A outer s H vs Q E hr h => ?_)
  obtain ⟨a, b, ws, sh, row, d, rfl, hG, hB, hl, hs, h0, h1, q⟩ := h
  refine ⟨_, PSs.nox (pss_cons (ps_expr (pe_call (G_check_guesser (P := P) T) (hr.mono (by decide)) (by rfl) T.g_check_guesser T.F_check_guesser.kp T.b_check_guesser .nil pass0 (pa_cons (pv 0) pa_nil)))
  (pss_cons (ps_expr (pe_call (G_check_depth (P := P) T) (hr.mono (by decide)) (by rfl) T.g_check_depth T.F_check_depth.kp T.b_check_depth .nil pass0 (pa_cons (pv 1) (pa_cons (pe_glob (v := .int 32) rfl T.m_MOST_DEPTH_guessers ⟨_, rfl⟩) pa_nil))))
  (pss_cons (ps_expr (pe_call (G_check_row (P := P) T) (hr.mono (by decide)) (by rfl) T.g_check_row T.F_check_row.kp T.b_check_row .nil pass0 (pa_cons (pv 1) (pa_cons (pv 2) pa_nil))))
  (pss_one (ps_ret (pe_lc (own := [("item", 3)]) (g := gName 3) (tt := tYes) (by rfl) sc_rests.nd (k_piL K rfl (pe_call (G_told_rests (P := P) T) (hr.mono (by decide)) (by rfl) T.g_told_rests T.F_told_rests.kp T.b_told_rests .nil pass0 (pa_cons (pv 0) (pa_cons (pv 2) pa_nil)))) (blkOk_by (own := [("item", 3)]) (N := N_rests) (sc := defScope s_rests) (by decide +kernel)) (fun _ _ _ _ _ => (pg_name (i := 3) sc_rests.nd rfl (by first | exact Or.inl rfl | exact Or.inr rfl))) (fun _ _ _ _ _ => pts_nil) (fun _ _ _ _ _ => (pe_call (G_wrapped (P := P) T) (hr.mono (by decide)) (by rfl) T.g_wrapped T.F_wrapped.kp T.b_wrapped .nil pass0 (pa_cons (pv 3) (pa_cons (pv 1) pa_nil)))))))))), ?_⟩
  refine ⟨_, rfl, a, ws, sh, rfl, hG, ?_⟩
  refine ⟨_, rfl, (d : Int), 32, rfl, by omega, by omega, ?_⟩
  refine ⟨_, rfl, _, rfl, b, row, d, rfl, hB, hs, hl, h0, by omega, fun H1 s1 => ?_⟩
  refine ⟨_, rfl, _, rfl, a, b, ws, sh, row, rfl, hG.same s1, s1.seq (.inl hB), hl, fun H2 p s2 np hp => ?_⟩
  have hP : SqL K H2 p ((toldR ws sh row).map V.int) := .inl (.inl hp)
  refine ⟨p, rfl, ⟨_, hP⟩, fun D nD => ?_⟩
  refine lc_mapL (K := K) (xs := (toldR ws sh row).map V.int) ((restsF ws sh d row).map V.int) nD hP (by unfold restsF; simp) (by rw [List.length_map, toldR_len]; exact small1000 hl) (fun x => rfl) ?_ ?_
  · intro i x y H' hx hy s Qt qt
    obtain ⟨n, hn, rfl⟩ := int_at hx
    unfold restsF at hy
    rw [List.getElem?_map, List.getElem?_map, hn] at hy
    cases hy
    exact ⟨_, rfl, _, rfl, n, d, rfl, h0, by omega, qt _ (Same.refl _)⟩
  · intro H3 s3 hD
    exact q _ D ((s1.trans s2).trans s3) (s1.free (s2.free nD)) hD
end
end My

namespace My
/-! ### rests lead back to rows -/
theorem pw (d : Nat) : (0 : Int) < 2 ^ (d - 1) := Int.pow_pos (by decide)
theorem wrap_id {d : Nat} {n : Int} (h1 : -(2 ^ (d - 1)) ≤ n) (h2 : n ≤ 2 ^ (d - 1) - 1) : wrapI n d = n := by
  have hp := pw d
  unfold wrapI
  rw [Int.emod_eq_of_lt (by omega) (by omega)]
  omega
theorem wrap_lo (n : Int) (d : Nat) : -(2 ^ (d - 1)) ≤ wrapI n d := by
  have hp := pw d
  have := Int.emod_nonneg (n + 2 ^ (d - 1)) (show (2 * 2 ^ (d - 1) : Int) ≠ 0 by omega)
  unfold wrapI
  omega
theorem wrap_hi (n : Int) (d : Nat) : wrapI n d ≤ 2 ^ (d - 1) - 1 := by
  have hp := pw d
  have := Int.emod_lt_of_pos (n + 2 ^ (d - 1)) (show (0 : Int) < 2 * 2 ^ (d - 1) by omega)
  unfold wrapI
  omega
/-- a multiple of the depth's power is not seen -/
theorem wrap_add (n k : Int) (d : Nat) : wrapI (n + k * (2 * 2 ^ (d - 1))) d = wrapI n d := by
  unfold wrapI
  rw [show n + k * (2 * 2 ^ (d - 1)) + 2 ^ (d - 1) = (n + 2 ^ (d - 1)) + k * (2 * 2 ^ (d - 1)) by omega, Int.add_mul_emod_self_right]
theorem wrap_eq (n : Int) (d : Nat) : ∃ k, wrapI n d = n + k * (2 * 2 ^ (d - 1)) := by
  refine ⟨-((n + 2 ^ (d - 1)) / (2 * 2 ^ (d - 1))), ?_⟩
  unfold wrapI
  have e := Int.emod_def (n + 2 ^ (d - 1)) (2 * 2 ^ (d - 1))
  rw [e, Int.neg_mul, Int.mul_comm]
  omega
theorem wrap_sub_add {d : Nat} {n g : Int} (h1 : -(2 ^ (d - 1)) ≤ n) (h2 : n ≤ 2 ^ (d - 1) - 1) : wrapI (wrapI (n - g) d + g) d = n := by
  obtain ⟨k, e⟩ := wrap_eq (n - g) d
  rw [e, show n - g + k * (2 * 2 ^ (d - 1)) + g = n + k * (2 * 2 ^ (d - 1)) by omega, wrap_add, wrap_id h1 h2]
theorem wrap_add_sub {d : Nat} {n g : Int} (h1 : -(2 ^ (d - 1)) ≤ n) (h2 : n ≤ 2 ^ (d - 1) - 1) : wrapI (wrapI (n + g) d - g) d = n := by
  obtain ⟨k, e⟩ := wrap_eq (n + g) d
  rw [e, show n + g + k * (2 * 2 ^ (d - 1)) - g = n + k * (2 * 2 ^ (d - 1)) by omega, wrap_add, wrap_id h1 h2]
/-- what is guessed behind a beginning: nothing within the firsts -/
def told0 (ws : List Int) (sh : Nat) (pre : List Int) : Int := if pre.length < ws.length then 0 else guessF ws sh pre
def restsGo (ws : List Int) (sh d : Nat) : List Int → List Int → List Int
  | _, [] => []
  | pre, x :: xs => wrapI (x - told0 ws sh pre) d :: restsGo ws sh d (pre ++ [x]) xs
def backGo (ws : List Int) (sh d : Nat) : List Int → List Int → List Int
  | _, [] => []
  | pre, r :: rs => wrapI (r + told0 ws sh pre) d :: backGo ws sh d (pre ++ [wrapI (r + told0 ws sh pre) d]) rs
theorem restsF_go (ws : List Int) (sh d : Nat) (row : List Int) : restsF ws sh d row = restsGo ws sh d [] row := by
  have key : ∀ (xs pre : List Int), ((List.range xs.length).map fun i => wrapI (restAt ws sh (pre ++ xs) (pre.length + i)) d) = restsGo ws sh d pre xs := by
    intro xs
    induction xs with
    | nil => intro pre; rfl
    | cons x xs ih =>
      intro pre
      rw [List.length_cons, List.range_succ_eq_map, List.map_cons, List.map_map]
      show _ = wrapI (x - told0 ws sh pre) d :: restsGo ws sh d (pre ++ [x]) xs
      rw [← ih (pre ++ [x])]
      congr 1
      · rw [Nat.add_zero]
        unfold restAt told0
        rw [List.getD_eq_getElem?_getD, List.getElem?_append_right (Nat.le_refl _), Nat.sub_self, List.take_left']
        · rfl
        · rfl
      · refine List.map_congr_left fun i _ => ?_
        show wrapI (restAt ws sh (pre ++ x :: xs) (pre.length + (i + 1))) d = wrapI (restAt ws sh (pre ++ [x] ++ xs) ((pre ++ [x]).length + i)) d
        rw [List.append_assoc, List.length_append, List.length_singleton]
        show _ = wrapI (restAt ws sh (pre ++ x :: xs) (pre.length + 1 + i)) d
        rw [show pre.length + 1 + i = pre.length + (i + 1) by omega]
  have := key row []
  unfold restsF toldR
  rw [List.map_map, ← this]
  refine List.map_congr_left fun i _ => ?_
  show wrapI (restAt ws sh row i) d = wrapI (restAt ws sh ([] ++ row) (0 + i)) d
  rw [List.nil_append, Nat.zero_add]
theorem rests_len (ws : List Int) (sh d : Nat) : ∀ (row pre : List Int), (restsGo ws sh d pre row).length = row.length
  | [], _ => rfl
  | x :: xs, pre => by
    show (restsGo ws sh d (pre ++ [x]) xs).length + 1 = xs.length + 1
    rw [rests_len ws sh d xs]
theorem back_len (ws : List Int) (sh d : Nat) : ∀ (row pre : List Int), (backGo ws sh d pre row).length = row.length
  | [], _ => rfl
  | x :: xs, pre => by
    show (backGo ws sh d _ xs).length + 1 = xs.length + 1
    rw [back_len ws sh d xs]
theorem rests_samples (ws : List Int) (sh d : Nat) : ∀ (row pre : List Int), Samples d (restsGo ws sh d pre row)
  | [], _ => fun _ h => nomatch h
  | x :: xs, pre => fun n hn => by
    rcases List.mem_cons.mp hn with rfl | hn
    · exact ⟨wrap_lo _ _, wrap_hi _ _⟩
    · exact rests_samples ws sh d xs _ n hn
theorem back_samples (ws : List Int) (sh d : Nat) : ∀ (row pre : List Int), Samples d (backGo ws sh d pre row)
  | [], _ => fun _ h => nomatch h
  | x :: xs, pre => fun n hn => by
    rcases List.mem_cons.mp hn with rfl | hn
    · exact ⟨wrap_lo _ _, wrap_hi _ _⟩
    · exact back_samples ws sh d xs _ n hn
theorem Samples.cons {d : Nat} {x : Int} {xs : List Int} (h : Samples d (x :: xs)) : (-(2 ^ (d - 1)) ≤ x ∧ x ≤ 2 ^ (d - 1) - 1) ∧ Samples d xs := ⟨h x List.mem_cons_self, fun n hn => h n (List.mem_cons_of_mem _ hn)⟩
theorem back_rests (ws : List Int) (sh d : Nat) : ∀ (row pre : List Int), Samples d row → backGo ws sh d pre (restsGo ws sh d pre row) = row
  | [], _, _ => rfl
  | x :: xs, pre, h => by
    obtain ⟨h1, h2⟩ := h.cons
    show wrapI (wrapI (x - told0 ws sh pre) d + told0 ws sh pre) d :: backGo ws sh d (pre ++ [wrapI (wrapI (x - told0 ws sh pre) d + told0 ws sh pre) d]) (restsGo ws sh d (pre ++ [x]) xs) = x :: xs
    rw [wrap_sub_add h1.1 h1.2, back_rests ws sh d xs _ h2]
theorem rests_back (ws : List Int) (sh d : Nat) : ∀ (row pre : List Int), Samples d row → restsGo ws sh d pre (backGo ws sh d pre row) = row
  | [], _, _ => rfl
  | x :: xs, pre, h => by
    obtain ⟨h1, h2⟩ := h.cons
    show wrapI (wrapI (x + told0 ws sh pre) d - told0 ws sh pre) d :: restsGo ws sh d (pre ++ [wrapI (x + told0 ws sh pre) d]) (backGo ws sh d (pre ++ [wrapI (x + told0 ws sh pre) d]) xs) = x :: xs
    rw [wrap_add_sub h1.1 h1.2, rests_back ws sh d xs _ h2]
/-! ### all rows of a depth -/
def smp (d : Nat) : List Int := (List.range (2 * 2 ^ (d - 1))).map fun (i : Nat) => -(2 ^ (d - 1)) + (i : Int)
def allRows (d : Nat) : Nat → List (List Int)
  | 0 => [[]]
  | m + 1 => (allRows d m).flatMap fun r => (smp d).map fun s => r ++ [s]
theorem mem_smp {d : Nat} {x : Int} : x ∈ smp d ↔ -(2 ^ (d - 1)) ≤ x ∧ x ≤ 2 ^ (d - 1) - 1 := by
  have hp := pw d
  have e : ((2 * 2 ^ (d - 1) : Nat) : Int) = 2 * 2 ^ (d - 1) := by rw [Int.natCast_mul, Int.natCast_pow]; rfl
  unfold smp
  constructor
  · intro h
    obtain ⟨i, hi, rfl⟩ := List.mem_map.mp h
    have hi := List.mem_range.mp hi
    have : (i : Int) < ((2 * 2 ^ (d - 1) : Nat) : Int) := Int.ofNat_lt.mpr hi
    omega
  · rintro ⟨h1, h2⟩
    refine List.mem_map.mpr ⟨(x + 2 ^ (d - 1)).toNat, List.mem_range.mpr ?_, by omega⟩
    have : ((x + 2 ^ (d - 1)).toNat : Int) < ((2 * 2 ^ (d - 1) : Nat) : Int) := by omega
    exact Int.ofNat_lt.mp this
theorem mem_rows {d : Nat} : ∀ {m : Nat} {r : List Int}, r ∈ allRows d m ↔ r.length = m ∧ Samples d r
  | 0, r => by
    show r ∈ [[]] ↔ _
    constructor
    · intro h
      rw [List.mem_singleton.mp h]
      exact ⟨rfl, fun _ h => nomatch h⟩
    · rintro ⟨h, _⟩
      rw [List.length_eq_zero_iff.mp h]
      exact List.mem_singleton.mpr rfl
  | m + 1, r => by
    show r ∈ (allRows d m).flatMap _ ↔ _
    constructor
    · intro h
      obtain ⟨q, hq, hr⟩ := List.mem_flatMap.mp h
      obtain ⟨s, hs, rfl⟩ := List.mem_map.mp hr
      obtain ⟨h1, h2⟩ := mem_rows.mp hq
      refine ⟨by rw [List.length_append, h1]; rfl, fun n hn => ?_⟩
      rcases List.mem_append.mp hn with hn | hn
      · exact h2 n hn
      · rw [List.mem_singleton.mp hn]
        exact mem_smp.mp hs
    · rintro ⟨h1, h2⟩
      have hne : r ≠ [] := fun e => by rw [e] at h1; cases h1
      refine List.mem_flatMap.mpr ⟨r.dropLast, mem_rows.mpr ⟨by rw [List.length_dropLast, h1]; rfl, fun n hn => h2 n (List.dropLast_subset r hn)⟩, List.mem_map.mpr ⟨r.getLast hne, mem_smp.mpr (h2 _ (List.getLast_mem hne)), List.dropLast_concat_getLast hne⟩⟩
theorem smp_nodup (d : Nat) : (smp d).Nodup := by
  unfold smp
  refine List.Pairwise.map _ (fun a b h => ?_) List.nodup_range
  intro e
  exact h (by omega)
theorem rows_nodup (d : Nat) : ∀ m, (allRows d m).Nodup
  | 0 => by simp [allRows]
  | m + 1 => by
    show ((allRows d m).flatMap fun r => (smp d).map fun s => r ++ [s]).Nodup
    have h := rows_nodup d m
    unfold List.Nodup at h ⊢
    rw [List.pairwise_flatMap]
    refine ⟨fun r _ => ?_, ?_⟩
    · refine List.Pairwise.map _ (fun a b h => ?_) (smp_nodup d)
      intro e
      have := List.append_cancel_left e
      exact h (by injection this)
    · refine List.Pairwise.imp (fun {a b} h => ?_) h
      intro x hx y hy e
      obtain ⟨s, _, rfl⟩ := List.mem_map.mp hx
      obtain ⟨t, _, rfl⟩ := List.mem_map.mp hy
      have := congrArg List.dropLast e
      rw [List.dropLast_concat, List.dropLast_concat] at this
      exact h this
/-- the rests of all rows are all rows -/
theorem rests_perm (ws : List Int) (sh d m : Nat) : ((allRows d m).map (restsF ws sh d)).Perm (allRows d m) := by
  have inj : ∀ a ∈ allRows d m, ∀ b ∈ allRows d m, restsF ws sh d a = restsF ws sh d b → a = b := fun a ha b hb e => by
    rw [restsF_go, restsF_go] at e
    rw [← back_rests ws sh d a [] (mem_rows.mp ha).2, e, back_rests ws sh d b [] (mem_rows.mp hb).2]
  have nd : ((allRows d m).map (restsF ws sh d)).Nodup := by
    have h := rows_nodup d m
    unfold List.Nodup at h ⊢
    rw [List.pairwise_map]
    refine List.Pairwise.imp_of_mem (fun {a b} ha hb hne e => ?_) h
    exact hne (inj a ha b hb e)
  refine (List.perm_ext_iff_of_nodup nd (rows_nodup d m)).mpr fun x => ⟨fun h => ?_, fun h => ?_⟩
  · obtain ⟨r, hr, rfl⟩ := List.mem_map.mp h
    obtain ⟨h1, h2⟩ := mem_rows.mp hr
    rw [restsF_go]
    exact mem_rows.mpr ⟨by rw [rests_len, h1], rests_samples ws sh d r []⟩
  · obtain ⟨h1, h2⟩ := mem_rows.mp h
    refine List.mem_map.mpr ⟨backGo ws sh d [] x, mem_rows.mpr ⟨by rw [back_len, h1], back_samples ws sh d x []⟩, ?_⟩
    rw [restsF_go, rests_back ws sh d x [] h2]
end My

namespace My
open PySem PySem.Spec PyProof.Rows L2 Pre
theorem pow_pred {d : Nat} (h : 1 ≤ d) : (1 : Int) * 2 ^ ((d : Int) - 1).toNat = 2 ^ (d - 1) := by rw [pred_toNat h, Int.one_mul]
/-- a list of lists of whole numbers -/
def RowsAt (H : Hp) (p : Addr) (rows : List (List Int)) : Prop := ∃ as : List Addr, H p = some (.lst (as.map V.ref)) ∧ as.length = rows.length ∧ ∀ (i : Nat) (a : Addr) (r : List Int), as[i]? = some a → rows[i]? = some r → H a = some (.lst (r.map V.int))
theorem RowsAt.same {H H' : Hp} {p : Addr} {rows : List (List Int)} (h : RowsAt H p rows) (s : Same H H') : RowsAt H' p rows := by
  obtain ⟨as, h1, h2, h3⟩ := h
  exact ⟨as, s _ _ h1, h2, fun i a r ha hr => s _ _ (h3 i a r ha hr)⟩
theorem flat_take {α β : Type} (f : α → List β) {l : List α} {i : Nat} {x : α} (h : l[i]? = some x) : (l.take (i + 1)).flatMap f = (l.take i).flatMap f ++ f x := by
  rw [List.take_add_one, h, List.flatMap_append]
  simp
theorem rows_len (d : Nat) (h : d ≤ 3) : ∀ m, m ≤ 3 → (allRows d m).length ≤ 8 ^ m
  | 0, _ => by simp [allRows]
  | m + 1, hm => by
    have ih := rows_len d h m (by omega)
    have hs : (smp d).length ≤ 8 := by
      unfold smp
      rw [List.length_map, List.length_range]
      have : 2 ^ (d - 1) ≤ 2 ^ 2 := Nat.pow_le_pow_right (by decide) (by omega)
      omega
    have e : ∀ l : List (List Int), (l.flatMap fun r => (smp d).map fun s => r ++ [s]).length = l.length * (smp d).length := fun l => by
      induction l with
      | nil => simp
      | cons x r ih => rw [List.flatMap_cons, List.length_append, List.length_map, ih, List.length_cons, Nat.succ_mul]; omega
    show ((allRows d m).flatMap _).length ≤ 8 ^ (m + 1)
    rw [e, Nat.pow_succ]
    exact Nat.mul_le_mul ih hs
section
variable {P : Program} {w : World} {K : PySem.W.Frag} {mg : Str → Option Value} {base : Heap}
def sp_law_weights : Sp := fun vs H Q _ => ∃ (g : Addr) (m : Nat) (n : Nat), vs = [.ref g, .int m] ∧ GenAt H g n ∧ n ≤ 10 ^ 9 ∧ m ≤ 8 ∧
  ∀ H' p ws, But g H H' → H p = none → H' p = some (.lst (ws.map V.int)) → GenAt H' g (n + 10000) → Weights ws → ws.length = m → Q (.ref p) H'
theorem G_law_weights (T : Top K mg) : FnOk P w K mg base CX0 3 T.f_law_weights T.fd_law_weights ["_law_generator_here", "_law_many"] sp_law_weights := by
  refine T.F_law_weights.ok sc_law_weights (fun vs H Q E h => by obtain ⟨g, m, n, rfl, _⟩ := h; rfl) (fun cdv A outer s H vs Q E hr h => ?_)
  obtain ⟨g, m, n, rfl, hG, hn, hm, q⟩ := h
  refine ⟨_, PSs.nox (pss_cons (ps_set (i := 2) sc_law_weights.nd rfl (by first | exact Or.inl rfl | exact Or.inr rfl) (pe_lst pa_nil))
  (pss_cons (ps_for PassesOwn.never rfl (pi_range1 (by rfl) T.n_range (pa_cons (pv 1) pa_nil)) (pg_name (i := 3) sc_law_weights.nd rfl (by first | exact Or.inl rfl | exact Or.inr rfl))
    (pss_cons (ps_par (by rfl) sc_law_weights.nd (i := 4) (j := 5) rfl rfl (by decide) rfl rfl (pa_cons (pe_op op_sub (pe_call (G_law_random (P := P) T) (hr.mono (by decide)) (by rfl) T.g_law_random T.F_law_random.kp T.b_law_random .nil pass0 (pa_cons (pv 0) (pa_cons (pe_op op_add (pe_op op_powW pe_int pe_int) pe_int) pa_nil))) (pe_op op_powW pe_int pe_int)) (pa_cons (pe_call (G_law_random (P := P) T) (hr.mono (by decide)) (by rfl) T.g_law_random T.F_law_random.kp T.b_law_random .nil pass0 (pa_cons (pv 0) (pa_cons pe_int pa_nil))) pa_nil)) (by rfl))
  (pss_one (ps_expr (pe_bm PySem.F.plainAttrs_list PySem.F.slot_list_append PySem.F.type_list_append mt_append (pv 2) (pa_cons (pe_ix (k_ixL K rfl) (pe_lst (pa_cons (pe_op op_sub (pe_call (G_law_random (P := P) T) (hr.mono (by decide)) (by rfl) T.g_law_random T.F_law_random.kp T.b_law_random .nil pass0 (pa_cons (pv 0) (pa_cons pe_int pa_nil))) pe_int) (pa_cons (pe_op op_sub (pe_call (G_law_random (P := P) T) (hr.mono (by decide)) (by rfl) T.g_law_random T.F_law_random.kp T.b_law_random .nil pass0 (pa_cons (pv 0) (pa_cons pe_int pa_nil))) pe_int) (pa_cons pe_int (pa_cons (pv 4) pa_nil))))) (pv 5) (fun _ _ => rfl)) pa_nil))))))
  (pss_one (ps_ret (pv 2))))), ?_⟩
  refine ⟨Nat.zero_le _, fun p np => ?_⟩
  have npg : p ≠ g := hG.ne np
  obtain ⟨H1, e1, s1, h1⟩ := fresh (.lst []) np
  rw [e1]
  refine ⟨_, rfl, _, rfl, by omega, by omega, ?_⟩
  rw [Int.toNat_natCast]
  refine for_range (lo := 0) (n := m) (fun i σ H2 => ∃ (v3 v4 v5 : Option V) (ws : List Int), σ = [some (.ref g), some (.int m), some (.ref p), v3, v4, v5] ∧ But g H H2 ∧ H2 p = some (.lst (ws.map V.int)) ∧ (∀ x ∈ ws, -32768 ≤ x ∧ x ≤ 32768) ∧ ws.length = i ∧ GenAt H2 g (n + 400 * i))
    ⟨none, none, none, [], rfl, But.of s1, h1, (fun _ h => nomatch h), rfl, hG.same s1⟩ ?_ ?_
  · rintro i σ H2 hi ⟨v3, v4, v5, ws, rfl, b2, hp2, hW, hl, g2⟩
    refine ⟨_, rfl, _, _, rfl, rfl, ⟨by decide, by decide +kernel⟩, _, _, rfl, rfl, g, _, _, rfl, g2, by omega, by decide, small_2900 (by decide), fun r1 H3 r10 r11 g3 b3 => ?_⟩
    refine ⟨_, _, rfl, rfl, ⟨by decide, by decide +kernel⟩, _, _, rfl, rfl, _, rfl, g, _, _, rfl, g3, by omega, by decide, small_2900 (by decide), fun kd H4 k0 k1 g4 b4 => ?_⟩
    refine ⟨_, _, rfl, ?_⟩
    have hp4 : H4 p = some (.lst (ws.map V.int)) := b4 _ _ npg (b3 _ _ npg hp2)
    refine ⟨_, rfl, .inl ⟨rfl, _, .inl (.inl hp4)⟩, ?_⟩
    refine ⟨_, rfl, g, _, _, rfl, g4, by omega, by decide, small_2900 (by decide), fun r2 H5 r20 r21 g5 b5 => ?_⟩
    refine ⟨_, _, rfl, rfl, _, rfl, g, _, _, rfl, g5, by omega, by decide, small_2900 (by decide), fun r3 H6 r30 r31 g6 b6 => ?_⟩
    refine ⟨_, _, rfl, rfl, _, rfl, (show 4 ≤ sizeLine by decide), fun c nc => ?_⟩
    have hp6 : H6 p = some (.lst (ws.map V.int)) := b6 _ _ npg (b5 _ _ npg hp4)
    have e16 : (2 : Int) ^ (16 : Int).toNat = 65536 := by decide
    have e15 : (2 : Int) ^ (15 : Int).toNat = 32768 := by decide
    rw [e16] at r11
    obtain ⟨H7, e7, s7, h7⟩ := fresh (.lst [V.int (r2 - 4), V.int (r3 - 2), V.int 0, V.int (r1 - 2 ^ (15 : Int).toNat)]) nc
    dsimp only
    rw [e7]
    have hx : ∃ y : Int, atI [V.int (r2 - 4), V.int (r3 - 2), V.int 0, V.int (r1 - 2 ^ (15 : Int).toNat)] kd = some (.int y) ∧ -32768 ≤ y ∧ y ≤ 32768 := by
      rw [e15]
      have hk : kd = 0 ∨ kd = 1 ∨ kd = 2 ∨ kd = 3 := by omega
      rcases hk with rfl | rfl | rfl | rfl
      · exact ⟨_, rfl, by omega, by omega⟩
      · exact ⟨_, rfl, by omega, by omega⟩
      · exact ⟨_, rfl, by omega, by omega⟩
      · exact ⟨_, rfl, by omega, by omega⟩
    obtain ⟨y, ay, y0, y1⟩ := hx
    refine ⟨_, rfl, c, _, _, _, rfl, rfl, .inl (.inl h7), ay, p, _, _, rfl, rfl, s7 _ _ hp6, by rw [List.length_map]; exact small1000 (by omega), ?_⟩
    have b27 : But g H2 H7 := ((((b3.trans b4).trans b5).trans b6).same s7)
    refine ⟨_, _, _, ws ++ [y], rfl, ?_, ?_, ?_, ?_, ?_⟩
    · intro b o z h
      rw [upd_ne (ne_of_none h np)]
      exact b27 _ _ z (b2 _ _ z h)
    · rw [upd_same, List.map_append]
      rfl
    · intro x hx
      rcases List.mem_append.mp hx with hx | hx
      · exact hW x hx
      · rw [List.mem_singleton.mp hx]
        exact ⟨y0, y1⟩
    · rw [List.length_append, hl]
      rfl
    · obtain ⟨x1, x2, x3, e, a1, a2⟩ := g6
      refine ⟨x1, x2, x3, ?_, a1, by omega⟩
      rw [upd_ne npg.symm]
      exact s7 _ _ e
  · rintro σ H2 ⟨v3, v4, v5, ws, rfl, b2, hp2, hW, hl, g2⟩
    exact ⟨_, rfl, q _ p ws b2 np hp2 (g2.mono (by omega)) ⟨by omega, hW⟩ hl⟩
/-! ### all rows -/
def sp_law_all_rows : Sp := fun vs H Q _ => ∃ d m : Nat, vs = [.int d, .int m] ∧ 1 ≤ d ∧ d ≤ 3 ∧ m ≤ 3 ∧ ∀ H' p, Same H H' → RowsAt H' p (allRows d m) → Q (.ref p) H'
theorem G_law_all_rows (T : Top K mg) : FnOk P w K mg base CX0 1 T.f_law_all_rows T.fd_law_all_rows ["_law_depth", "_law_many"] sp_law_all_rows := by
  refine T.F_law_all_rows.ok sc_law_all_rows (fun vs H Q E h => by obtain ⟨d, m, rfl, _⟩ := h; rfl) (fun cdv A outer s H vs Q E hr h => ?_)
  obtain ⟨d, m, rfl, h0, h1, hm, q⟩ := h
  refine ⟨_, PSs.nox (pss_cons (ps_set (i := 2) sc_law_all_rows.nd rfl (by first | exact Or.inl rfl | exact Or.inr rfl) (pe_lst (pa_cons (pe_lst pa_nil) pa_nil)))
  (pss_cons (ps_for PassesOwn.never rfl (pi_range1 (by rfl) T.n_range (pa_cons (pv 1) pa_nil)) (pg_name (i := 3) sc_law_all_rows.nd rfl (by first | exact Or.inl rfl | exact Or.inr rfl))
    (pss_cons (ps_set (i := 4) sc_law_all_rows.nd rfl (by first | exact Or.inl rfl | exact Or.inr rfl) (pe_lst pa_nil))
  (pss_cons (ps_for PassesOwn.never rfl (k_piL K rfl (pv 2)) (pg_name (i := 5) sc_law_all_rows.nd rfl (by first | exact Or.inl rfl | exact Or.inr rfl))
    (pss_one (ps_set (i := 4) sc_law_all_rows.nd rfl (by first | exact Or.inl rfl | exact Or.inr rfl) (pe_op op_cat (pv 4) (pe_lc (own := [("_law_sample_here", 6)]) (g := gName 6) (tt := tYes) (by rfl) sc_law_all_rows.nd (pi_range2 (by rfl) T.n_range (pa_cons (pe_un un_neg (pe_op op_shl pe_int (pe_op op_sub (pv 0) pe_int))) (pa_cons (pe_op op_shl pe_int (pe_op op_sub (pv 0) pe_int)) pa_nil))) (blkOk_by (own := [("_law_sample_here", 6)]) (N := N_law_all_rows) (sc := defScope s_law_all_rows) (by decide +kernel)) (fun _ _ _ _ _ => (pg_name (i := 6) sc_law_all_rows.nd rfl (by first | exact Or.inl rfl | exact Or.inr rfl))) (fun _ _ _ _ _ => pts_nil) (fun _ _ _ _ _ => (pe_op op_cat (pv 5) (pe_lst (pa_cons (pv 6) pa_nil)))))))))
  (pss_one (ps_set (i := 2) sc_law_all_rows.nd rfl (by first | exact Or.inl rfl | exact Or.inr rfl) (pv 4))))))
  (pss_one (ps_ret (pv 2))))), ?_⟩
  have hp := pow_pos' (d - 1)
  have hp2 : (2 : Int) ^ (d - 1) ≤ 2 ^ 2 := pow2_le (by omega)
  refine ⟨Nat.zero_le _, fun c nc => ?_⟩
  obtain ⟨H1, e1, s1, h1'⟩ := fresh (.lst []) nc
  rw [e1]
  refine ⟨(show 1 ≤ sizeLine by decide), fun pf npf => ?_⟩
  obtain ⟨H2, e2, s2, h2⟩ := fresh (.lst [V.ref c]) npf
  rw [e2]
  refine ⟨_, rfl, _, rfl, by omega, by omega, ?_⟩
  rw [Int.toNat_natCast]
  refine for_range (lo := 0) (n := m) (fun i σ H3 => ∃ (v3 v4 v5 v6 : Option V) (pf : Addr), σ = [some (.int d), some (.int m), some (.ref pf), v3, v4, v5, v6] ∧ Same H H3 ∧ RowsAt H3 pf (allRows d i)) ⟨none, none, none, none, pf, rfl, s1.trans s2, ?_⟩ ?_ ?_
  · refine ⟨[c], h2, rfl, fun i a r ha hr => ?_⟩
    have hi : i = 0 := by
      have := (List.getElem?_eq_some_iff.mp ha).1
      rw [List.length_singleton] at this
      omega
    subst hi
    cases ha
    cases hr
    exact s2 _ _ h1'
  · rintro i σ H3 hi ⟨v3, v4, v5, v6, pf, rfl, s3, hR⟩
    have hrl := rows_len d h1 i (by omega)
    have h8 : 8 ^ i ≤ 8 ^ 2 := Nat.pow_le_pow_right (by decide) (by omega)
    refine ⟨Nat.zero_le _, fun pl npl => ?_⟩
    obtain ⟨H4, e4, s4, h4⟩ := fresh (.lst []) npl
    rw [e4]
    obtain ⟨as, ha, hal, hat⟩ := hR.same s4
    have hA : SqL K H4 pf (as.map V.ref) := .inl (.inl ha)
    refine ⟨_, rfl, pf, rfl, ⟨_, hA⟩, for_list (K := K) (a := pf) (xs := as.map V.ref) (fun j σ H5 => ∃ (v5 v6 : Option V) (pl : Addr), σ = [some (.int d), some (.int m), some (.ref pf), some (.int (0 + (i : Int))), some (.ref pl), v5, v6] ∧ Same H4 H5 ∧ RowsAt H5 pl (((allRows d i).take j).flatMap fun r => (smp d).map fun s => r ++ [s])) ⟨_, _, pl, rfl, Same.refl _, [], h4, rfl, fun i a r ha hr => by simp at ha⟩ (fun j σ H5 _ ⟨_, _, _, _, s, _⟩ => s.seq hA) ?_ ?_⟩
    · rintro j x σ H5 hx ⟨v5, v6, pl, rfl, s5, hL⟩
      rw [List.getElem?_map] at hx
      obtain ⟨a, ha', rfl⟩ := Option.map_eq_some_iff.mp hx
      have hj : j < as.length := (List.getElem?_eq_some_iff.mp ha').1
      obtain ⟨r, hr⟩ : ∃ r, (allRows d i)[j]? = some r := ⟨_, List.getElem?_eq_getElem (by omega)⟩
      have hra : H5 a = some (.lst (r.map V.int)) := s5 _ _ (hat j a r ha' hr)
      have hrm := (mem_rows.mp (List.mem_of_getElem? hr)).1
      obtain ⟨bs, hb, hbl, hbt⟩ := hL
      -- the comprehension
      refine ⟨_, rfl, ?_⟩
      refine ⟨_, rfl, _, _, rfl, rfl, _, _, rfl, rfl, ⟨by omega, by omega, by decide⟩, _, rfl, _, rfl, _, _, rfl, rfl, _, _, rfl, rfl, ⟨by omega, by omega, by decide⟩, ?_⟩
      refine ⟨-(1 * 2 ^ ((d : Int) - 1).toNat), 1 * 2 ^ ((d : Int) - 1).toNat, rfl, ?_⟩
      rw [pow_pred h0]
      refine ⟨⟨by omega, by omega, by omega, by omega⟩, fun D nD => ?_⟩
      have en : ((2 : Int) ^ (d - 1) - -(2 ^ (d - 1))).toNat = 2 * 2 ^ (d - 1) := by
        have e : ((2 * 2 ^ (d - 1) : Nat) : Int) = 2 * 2 ^ (d - 1) := by rw [Int.natCast_mul, Int.natCast_pow]; rfl
        omega
      rw [en]
      have hn4 : 2 * 2 ^ (d - 1) ≤ 8 := by
        have : 2 ^ (d - 1) ≤ 2 ^ 2 := Nat.pow_le_pow_right (by decide) (by omega)
        omega
      refine lc_relR (lo := -(2 ^ (d - 1))) (n := 2 * 2 ^ (d - 1)) (fun k y H' => ∃ c, y = .ref c ∧ c ≠ D ∧ H' c = some (.lst ((r ++ [-(2 ^ (d - 1)) + (k : Int)]).map V.int))) nD (by rw [sizeLine_eq]; omega) ?_ (fun x => rfl) ?_ ?_
      · rintro k y Ha Hb off ⟨c, e, nc, hc⟩
        exact ⟨c, e, nc, off _ _ nc hc⟩
      · intro k H6 xs hk s6 hD6 Qt qt
        refine ⟨_, rfl, _, rfl, (show 1 ≤ sizeLine by decide), fun c1 nc1 => ?_⟩
        obtain ⟨H7, e7, s7, h7⟩ := fresh (.lst [V.int (-(2 ^ (d - 1)) + (k : Int))]) nc1
        rw [e7]
        refine ⟨a, c1, _, _, rfl, rfl, s7 _ _ (s6 _ _ hra), h7, by rw [List.length_map, sizeLine_eq]; simp; omega, fun c2 nc2 => ?_⟩
        refine qt _ _ (s7.trans (same_upd nc2)) ⟨c2, rfl, ?_, ?_⟩
        · exact (ne_of_none (s7 _ _ hD6) nc2).symm
        · rw [upd_same, List.map_append]
          rfl
      · intro H6 ys s6 hD6 hyl hyR
        have hb6 := s6 _ _ hb
        have hbn : bs.length ≤ 512 := by
          rw [hbl]
          have e : ∀ l : List (List Int), (l.flatMap fun r => (smp d).map fun s => r ++ [s]).length = l.length * (smp d).length := fun l => by
            induction l with
            | nil => simp
            | cons x r ih => rw [List.flatMap_cons, List.length_append, List.length_map, ih, List.length_cons, Nat.succ_mul]; omega
          have hsm : (smp d).length ≤ 8 := by unfold smp; rw [List.length_map, List.length_range]; exact hn4
          rw [e, List.length_take]
          exact Nat.le_trans (Nat.mul_le_mul (show min j (allRows d i).length ≤ 64 by omega) hsm) (by decide)
        refine ⟨pl, D, _, _, rfl, rfl, hb6, hD6, by rw [List.length_map, hyl, sizeLine_eq]; omega, fun p2 np2 => ?_⟩
        obtain ⟨cs, rfl, hcs⟩ : ∃ cs : List Addr, ys = cs.map V.ref ∧ ∀ (k : Nat) (c : Addr), cs[k]? = some c → H6 c = some (.lst ((r ++ [-(2 ^ (d - 1)) + (k : Int)]).map V.int)) := by
          have key : ∀ (ys : List V) (o : Nat), (∀ (i : Nat) (y : V), ys[i]? = some y → ∃ c, y = .ref c ∧ c ≠ D ∧ H6 c = some (.lst ((r ++ [-(2 ^ (d - 1)) + ((o + i : Nat) : Int)]).map V.int))) → ∃ cs : List Addr, ys = cs.map V.ref ∧ ∀ (k : Nat) (c : Addr), cs[k]? = some c → H6 c = some (.lst ((r ++ [-(2 ^ (d - 1)) + ((o + k : Nat) : Int)]).map V.int)) := by
            intro ys
            induction ys with
            | nil => intro o _; exact ⟨[], rfl, fun k c h => by simp at h⟩
            | cons y r' ih =>
              intro o h
              obtain ⟨c, e, _, hc⟩ := h 0 y rfl
              obtain ⟨cs, e2, h2⟩ := ih (o + 1) fun i y hy => by
                obtain ⟨c, a, b, d⟩ := h (i + 1) y hy
                exact ⟨c, a, b, by rw [show o + 1 + i = o + (i + 1) by omega]; exact d⟩
              refine ⟨c :: cs, by rw [e, e2]; rfl, fun k c' hk => ?_⟩
              cases k with
              | zero => cases hk; exact hc
              | succ k =>
                have := h2 k c' hk
                rw [show o + 1 + k = o + (k + 1) by omega] at this
                exact this
          obtain ⟨cs, a, b⟩ := key ys 0 fun i y hy => by
            obtain ⟨c, e, nc, hc⟩ := hyR i y hy
            exact ⟨c, e, nc, by rw [Nat.zero_add]; exact hc⟩
          exact ⟨cs, a, fun k c hk => by have := b k c hk; rw [Nat.zero_add] at this; exact this⟩
        have hcl : cs.length = 2 * 2 ^ (d - 1) := by rw [List.length_map] at hyl; exact hyl
        refine ⟨_, _, p2, rfl, (s5.trans s6).trans (same_upd np2), bs ++ cs, ?_, ?_, ?_⟩
        · rw [upd_same, List.map_append]
        · rw [List.length_append, hbl, flat_take _ hr, List.length_append, hcl, List.length_map]
          unfold smp
          rw [List.length_map, List.length_range]
        · intro k c row hc hrow
          rw [flat_take _ hr] at hrow
          have s6' := s6.trans (same_upd (o := .lst (bs.map V.ref ++ cs.map V.ref)) np2)
          by_cases hk : k < bs.length
          · rw [List.getElem?_append_left hk] at hc
            rw [List.getElem?_append_left (by omega)] at hrow
            exact s6' _ _ (hbt k c row hc hrow)
          · rw [List.getElem?_append_right (by omega)] at hc
            rw [List.getElem?_append_right (by omega), ← hbl, List.getElem?_map] at hrow
            obtain ⟨sm, hsm, rfl⟩ := Option.map_eq_some_iff.mp hrow
            have h6 := hcs _ _ hc
            unfold smp at hsm
            rw [List.getElem?_map] at hsm
            obtain ⟨z, hz, rfl⟩ := Option.map_eq_some_iff.mp hsm
            have ez : z = k - bs.length := by
              have hlt := (List.getElem?_eq_some_iff.mp hz).1
              rw [List.length_range] at hlt
              rw [List.getElem?_range hlt] at hz
              exact (Option.some.inj hz).symm
            rw [ez]
            exact same_upd np2 _ _ h6
    · rintro σ H5 ⟨v5, v6, pl, rfl, s5, hL⟩
      rw [List.length_map, hal, List.take_length] at hL
      exact ⟨_, rfl, _, _, _, _, pl, rfl, (s3.trans s4).trans s5, hL⟩
  · rintro σ H3 ⟨v3, v4, v5, v6, pf, rfl, s3, hR⟩
    exact ⟨_, rfl, q _ pf s3 hR⟩
end
end My

namespace My
open PySem PySem.Spec PyProof.Rows L2 Pre
/-! ### promises for callers that stand in no repr: within them repr of lists shows its items -/
structure FnG (P : Program) (w : World) (K : PySem.W.Frag) (mg : Str → Option Value) (base : Heap) (CX : CXT) (k : Nat) (f : Addr) (fd : FuncData) (ps : List Str) (sp : Sp) : Prop where
  many : ∀ xs H Q E, sp xs H Q E → xs.length = ps.length
  does : ∀ (A : Around), A.guards = some [] → Room k A → ∀ (fr : List Env) (t : Shared) (H : Hp), Env0 P w K mg base A fr t H → ∀ (ar : Args) (us : List Value) (xs : List V), BindsTo t fd ar (ps.zip us) → Vals xs us →
    ∀ (Q : VK) (E : XK), sp xs H Q E → codeAny (model P w) A (.call (.ref f) ar) (CR CX fr P w H t Q E) t
section
variable {P : Program} {w : World} {K : PySem.W.Frag} {mg : Str → Option Value} {base : Heap} {CX : CXT} {k : Nat} {f : Addr} {fd : FuncData} {ps : List Str} {sp : Sp}
theorem FnG.of (F : FnOk P w K mg base CX k f fd ps sp) : FnG P w K mg base CX k f fd ps sp :=
  ⟨F.len, fun A _ hr fr t H e ar us xs b v Q E h => F.run A fr t H ar us xs Q E hr e b v h⟩
/-- a body makes a promise -/
theorem FnG.body {x qual : Str} {pr : Arguments} {bd : List Stmt} {sc : Scope} {dvs : List V} {kws : List (Str × V)} {N : List Str} (F : FunD K x qual pr bd sc dvs kws f fd) (S : FnScope N ps sc) (hm : ∀ xs H Q E, sp xs H Q E → xs.length = ps.length)
    (go : ∀ (cv : Value) (A : Around) (fr : List Env) (t : Shared) (H : Hp) (xs : List V) (Q : VK) (E : XK), A.guards = some [] → Room k (A.deeper (envOfC qual sc t.heap.objs.size f cv)) → sp xs H Q E →
      ∃ τ, PSs (cxOf CX P w K mg base N qual sc f cv A fr t H E) bd τ ∧ τ { nx := fun _ H1 => Q .non H1, rt := Q } (start N xs) H) : FnG P w K mg base CX (k + 1) f fd ps sp := by
  obtain ⟨c0, d0, dv, kv, dc, pm, an, cv, ct, sl, rfl, lk, hcode, _, _⟩ := F.ex
  refine ⟨hm, fun A gd hr fr t H e0 ar us xs hb rv Q E hs => ?_⟩
  have hin : K.In t.heap := e0.mod.kin.keeps fun b o z => (e0.bs b o z).1
  have hno : t.heap.NoLimit := e0.mod.nolimit.keeps fun b o z => (e0.bs b o z).1
  refine codeAny_call_function hr.depth (hin _ _ lk) rfl S.co S.gen rfl (PySem.W.codeRec_of hin hcode) (hb _ _ _ _ ?_)
  refine wpAny_newFunctionEnv_cells S.kind (fun y hy => ?_) fun env he t1 hx => ?_
  · obtain ⟨n, u⟩ := y
    rcases S.par n (List.of_mem_zip hy).1 with z | z
    · exact Or.inl z
    · exact Or.inr ⟨z, PySem.W.cellsFrom_some _ _ _ (Or.inl z)⟩
  · subst he
    refine ⟨hno.keeps hx.toInCall.keep, codeAny_func ?_⟩
    obtain ⟨τ, hτ, hq⟩ := go cv A fr t H xs Q E gd (hr.deeper _) hs
    have J := inv_start (CX := CX) (E := E) S hr.hd e0 (hm _ _ _ _ hs) rv hx
    refine wpAny_mono (hτ.run [] t1 (start N xs) H _ J hq) (fun fl t2 h2 => ?_) fun _ _ z => z
    cases fl with
    | brk => exact False.elim h2.choose_spec.choose_spec.2
    | cont => exact False.elim h2.choose_spec.choose_spec.2
    | next =>
      obtain ⟨σ2, H2, J2, q2⟩ := h2
      exact ⟨V.non, H2, J2.os, J2.bare, J2.base, J2.hok, rfl, q2⟩
    | ret u =>
      obtain ⟨v2, σ2, H2, J2, r2, q2⟩ := h2
      exact ⟨v2, H2, J2.os, J2.bare, J2.base, J2.hok, r2, q2⟩
end
section
variable {X : Cx} {CX : CXT} {k : Nat} {f : Addr} {fd : FuncData} {ps : List Str} {sp : Sp} {dvs : List V} {ds : List Value} {E : XK} {x : Str} {p pos : Pos} {e : Expr} {es : List Expr} {t : TA}
theorem go_g {pins : List (Addr × Obj)} {σ : L2.St} {H : Hp} {s : Shared} {Q : VK} {us : List Value} {xs : List V} (F : FnG X.prog X.w X.K X.mg X.base CX k f fd ps sp) (gd : X.A.guards = some []) (hr : Room k X.A) (hb : Binds X.K fd ps ds) (hd : Vals dvs ds)
    (hx : Passes CX X E) (I : Inv X pins σ H s) (r : Vals xs us) (h : sp (xs ++ dvs) H Q E) : wpAny (model X.prog X.w) X.A (call (.ref f) us) (EP X pins σ Q) X.xe s := by
  have rr := Vals.append r hd
  refine wpAny_call (codeAny_mono (F.does X.A gd hr X.stack s H I.env0 ⟨us, []⟩ (us ++ ds) (xs ++ dvs) (hb s us I.kIn (by rw [← rr.length]; exact F.many _ _ _ _ h)) rr Q E h) fun z s2 hz => ?_)
  match z, hz with
  | .error e, hz => exact hx pins σ H s e s2 I hz
  | .ok (.ret u), hz => exact I.after hz
theorem pe_callG (F : FnG X.prog X.w X.K X.mg X.base CX k f fd ps sp) (gd : X.A.guards = some []) (hr : Room k X.A) (hg : Gl X x) (hm : X.mg x = some (.ref f)) (hk : PySem.W.keepIn X.K (.ref f) = true) (hb : Binds X.K fd ps ds) (hd : Vals dvs ds) (hx : Passes CX X E)
    (ha : PA X (e :: es) t) (hdb : (x == ("__debug__" : Str)) = false := by decide) (he : starEach (e :: es) X.env = (false, eval e X.env) :: starEach es X.env := by rfl) (hpl : (backTo pos (starEach es X.env)).any (·.1) = false := by rfl) :
    PE X (.Call (.Name x p) (e :: es) [] pos) (tCall sp dvs E t) :=
  ⟨fun pins s σ H Q I h => wpAny_Call_Name_kw (ld_glob I hg hm (PySem.W.callWith_K (h₀ := X.base) I.ok.mod.kin hk (thn (ha.run pos pins s σ H _ I h) fun us s1 ⟨vs, H1, J, r, q⟩ => ⟨J.kIn, go_g F gd hr hb hd hx J r q⟩) he hpl) hdb)⟩
theorem pe_callG0 (F : FnG X.prog X.w X.K X.mg X.base CX k f fd ps sp) (gd : X.A.guards = some []) (hr : Room k X.A) (hg : Gl X x) (hm : X.mg x = some (.ref f)) (hk : PySem.W.keepIn X.K (.ref f) = true) (hb : Binds X.K fd ps ds) (hd : Vals dvs ds) (hx : Passes CX X E)
    (hdb : (x == ("__debug__" : Str)) = false := by decide) : PE X (.Call (.Name x p) [] [] pos) (tCall sp dvs E tNil) :=
  ⟨fun pins s σ H Q I h => wpAny_Call_Name_kw (ld_glob I hg hm (PySem.W.callWith_K0 I.kIn hk (go_g (us := []) F gd hr hb hd hx I .nil h)) hdb)⟩
end
/-! ### repr -/
def rRepr (K : PySem.W.Frag) : List V → Hp → VK → Prop := fun xs H Q => ∃ (x : V) (d : PyData), xs = [x] ∧ Dp K H x d ∧ d.showable = true ∧ SeqAt.shaped d = true ∧ d.shown.length ≤ sizeLine ∧ Q (.str d.shown) H
theorem call_repr {X : Cx} (gd : X.A.guards = some []) (hu : X.A.units + 65 < cLine) : CallR X (.builtin "repr") (rRepr X.K) := by
  intro pins s σ H xs us Q I r h
  obtain ⟨x, d, rfl, hd, hs, hsh, hl, q⟩ := h
  cases r with
  | cons rx rr =>
    cases rr
    rename_i u
    have hlay : d.canLay0 = true := SeqAt.canLay_of_shaped hsh
    have hdep : d.depth ≤ 64 := by
      have z : (d.canLay0 && decide (d.depth ≤ 64)) = true := hsh
      exact of_decide_eq_true (Bool.and_eq_true_iff.mp z).2
    obtain ⟨as, rd⟩ := Dp.reads I d x u hd rx
    have fin : ∀ h' v tk, (∀ b o, s.heap.get? b = some o → h'.get? b = some o) → EP X pins σ Q (.str d.shown v) { s with heap := h', toks := tk } := fun h' v tk hk => ⟨.str d.shown, H, I.kept hk, ⟨v, rfl⟩, q⟩
    cases hd with
    | non => cases rx; exact PySem.P.repr_of_none (fin _ _ _ fun _ _ z => z)
    | bl b => cases rx; exact PySem.P.repr_of_bool (fin _ _ _ fun _ _ z => z)
    | int i => obtain ⟨t, rfl⟩ := rx; exact PySem.P.repr_of_int (of_decide_eq_true hs) (fin _ _ _ fun _ _ z => z)
    | str y => obtain ⟨t, rfl⟩ := rx; exact PySem.P.repr_of_str (fin _ _ _ fun _ _ z => z) hl
    | lst _ _ => cases rx; exact repr_of_reads' rd hs (PyData.noDict_hsm (PyData.hasDict_of_canLay _ hlay)) gd (by omega) (fun _ _ z => z) fin hl
    | tup _ _ => cases rx; exact repr_of_reads' rd hs (PyData.noDict_hsm (PyData.hasDict_of_canLay _ hlay)) gd (by omega) (fun _ _ z => z) fin hl
theorem k_repr {X : Cx} (K : PySem.W.Frag) (h : X.K = K) (gd : X.A.guards = some []) (hu : X.A.units + 65 < cLine) : CallR X (.builtin "repr") (rRepr K) := by subst h; exact call_repr gd hu
theorem hu65 {k : Nat} {A : Around} (r : Room k A) : A.units + 65 < cLine := by have := r.un; omega
/-- rows of whole numbers, shown -/
theorem dp_ints {K : PySem.W.Frag} {H : Hp} : ∀ ns : List Int, DpAll K H (ns.map V.int) (ns.map PyData.int)
  | [] => .nil
  | n :: ns => .cons (.int n) (dp_ints ns)
theorem dp_row {K : PySem.W.Frag} {H : Hp} {a : Addr} {ns : List Int} (h : SqL K H a (ns.map V.int)) : Dp K H (.ref a) (.list (ns.map PyData.int)) := .lst h (dp_ints ns)
def shownR (ns : List Int) : Str := PyData.shown (.list (ns.map PyData.int))
theorem ints_lay : ∀ ns : List Int, PyData.canLayAll0 (ns.map PyData.int) = true
  | [] => rfl
  | n :: ns => by simp [PyData.canLayAll0, PyData.canLay0, ints_lay ns]
theorem ints_depth : ∀ ns : List Int, PyData.depthAll (ns.map PyData.int) ≤ 1
  | [] => by simp [PyData.depthAll]
  | n :: ns => by
    have := ints_depth ns
    simp only [List.map_cons, PyData.depthAll, PyData.depth]
    omega
theorem row_shaped (ns : List Int) : SeqAt.shaped (.list (ns.map PyData.int)) = true := by
  have h := ints_depth ns
  show (PyData.canLay0 (.list (ns.map PyData.int)) && decide (PyData.depth (.list (ns.map PyData.int)) ≤ 64)) = true
  rw [Bool.and_eq_true]
  exact ⟨by simp only [PyData.canLay0]; exact ints_lay ns, decide_eq_true (by simp only [PyData.depth]; omega)⟩
theorem ints_show : ∀ ns : List Int, (∀ n ∈ ns, n.natAbs.log2 < 1920) → PyData.showableAll (ns.map PyData.int) = true
  | [], _ => rfl
  | n :: ns, h => by
    simp only [List.map_cons, PyData.showableAll, PyData.showable]
    rw [decide_eq_true (h n List.mem_cons_self), ints_show ns fun m hm => h m (List.mem_cons_of_mem _ hm)]
    rfl
/-! ### sorted, any number -/
theorem k_sortedI {X : Cx} (K : PySem.W.Frag) (h : X.K = K) : CallR X (.builtin "sorted") (rSortedI K) := by subst h; exact cr_sortedI
def rSortedA (K : PySem.W.Frag) : List V → Hp → VK → Prop := fun vs H Q => ∃ (a : Addr) (xs : List Str), vs = [V.ref a] ∧ SqL K H a (xs.map V.str) ∧ ∀ (ys : List Str) (p : Addr), ys.Perm xs → sortedS ys = true → H p = none → Q (.ref p) (upd H p (.lst (ys.map V.str)))
theorem k_sortedS {X : Cx} (K : PySem.W.Frag) (h : X.K = K) : CallR X (.builtin "sorted") (rSortedA K) := by
  subst h
  intro pins s σ H vs us Q I r h
  obtain ⟨a, xs, rfl, hs, q⟩ := h
  obtain ⟨its, rv, hl, hz⟩ := I.list hs
  rw [Vals.ref1 r]
  refine sorted_strsAny hl.isList rv.strs (by rw [← rv.length]; exact hz) fun out ys h1 h2 h3 => ?_
  obtain ⟨ep, at_⟩ := sortedAll_at s.heap its out
  refine ⟨.ref _, upd H (s.heap.objs.size + 1) (.lst (ys.map V.str)), I.laid (t' := s.toks) (fun _ _ => sortedAll_old) (Nat.le_succ _) ⟨?_, out.toList, ep, vals_of_strs h1, at_⟩, rfl, q ys _ h2 h3 (I.hok.fresh (Nat.le_succ _))⟩
  rw [List.length_map, h2.length_eq]
  rw [List.length_map] at hz
  exact hz
theorem sorted_le : ∀ (l : List Str) (p : Str), risingS p l = true → (p :: l).Pairwise fun x y => x.cps.toList ≤ y.cps.toList
  | [], p, _ => List.pairwise_singleton _ _
  | x :: r, p, h => by
    obtain ⟨h1, h2⟩ := Bool.and_eq_true_iff.mp (show (!ltCps x.cps.toList p.cps.toList && risingS x r) = true from h)
    have hpx : p.cps.toList ≤ x.cps.toList := by
      rw [ltCps_eq] at h1
      intro z
      rw [decide_eq_true z] at h1
      cases h1
    have ih := sorted_le r x h2
    refine List.pairwise_cons.mpr ⟨fun y hy => ?_, ih⟩
    rcases List.mem_cons.mp hy with rfl | hy
    · exact hpx
    · exact List.le_trans hpx ((List.pairwise_cons.mp ih).1 y hy)
theorem sorted_uniq {xs ys : List Str} (h : xs.Perm ys) (hx : sortedS xs = true) (hy : sortedS ys = true) : xs = ys := by
  have pw : ∀ l : List Str, sortedS l = true → l.Pairwise fun x y => x.cps.toList ≤ y.cps.toList := fun l hl => by
    cases l with
    | nil => exact .nil
    | cons x r => exact sorted_le r x hl
  refine List.Perm.eq_of_pairwise (fun x y _ _ h1 h2 => ?_) (pw _ hx) (pw _ hy) h
  have e := List.le_antisymm h1 h2
  cases x with | mk a => cases y with | mk b => exact congrArg Str.mk (Array.toList_inj.mp e)
end My

namespace My
open PySem PySem.Spec PyProof.Rows L2 Pre
/-! ### the end of a law whose promise stands in no repr -/
/-- the script, tracked or one of the module's own objects -/
theorem script_env {P : Program} {w : World} {K : PySem.W.Frag} {mg mb : Str → Option Value} {a : Addr} {t : Shared} {us : List Value} {ns : List Int} (hin : K.In t.heap) (hgl : t.heap.Ns mainGlobals mg) (hbl : t.heap.Ns builtinsNs mb)
    (hbo : ∀ x : Str, x ≠ "__name__" → mb x = bootBuiltins x) (hno : t.heap.NoLimit) (hgs : t.gens = #[]) (at_a : t.heap.get? a = some { cls := .type "list", data := .seq us.toArray }) (ints_ : IntsAre us ns) (few : ns.length ≤ sizeLine) :
    ∃ (H : Hp) (base : Heap), Only H ∧ SqL K H a (ns.map V.int) ∧ K.In base ∧ base.Ns mainGlobals mg ∧ Env0 P w K mg base callerA [] t H := by
  have rv := vals_ints ints_
  have ul := ints_.length
  -- the module and the rest of the heap, whatever is tracked at a alone
  have rest : ∀ H : Hp, Only H → (∀ b, b ≠ a → H b = none) → (H a = none ∨ K.lookup a = none) → HOk P w H t.heap → SqL K H a (ns.map V.int) → ∃ (H : Hp) (base : Heap), Only H ∧ SqL K H a (ns.map V.int) ∧ K.In base ∧ base.Ns mainGlobals mg ∧ Env0 P w K mg base callerA [] t H := by
    intro H h1 h2 h3 h4 h5
    have dictFree : ∀ b o, t.heap.get? b = some o → (∃ es n, o.data = Data.dict es n) → H b = none := fun b o z ⟨es, n, d⟩ => by
      by_cases hb : b = a
      · rw [hb, at_a] at z
        cases z
        cases d
      · exact h2 b hb
    have nsKept : ∀ (b : Addr) (m : Str → Option Value), t.heap.Ns b m → (hidT t.heap H).Ns b m := fun b m z => by
      obtain ⟨o, es, ep, z1, z2, z3⟩ := z
      exact ⟨o, es, ep, hidT_get z1 (dictFree b o z1 ⟨_, _, z2⟩), z2, z3⟩
    have inKept : K.In (hidT t.heap H) := fun b o z => hidT_get (hin b o z) (by
      by_cases hb : b = a
      · rcases h3 with z3 | z3
        · rw [hb]; exact z3
        · rw [hb, z3] at z; cases z
      · exact h2 b hb)
    obtain ⟨mc, l1, l2⟩ := hno
    refine ⟨H, hidT t.heap H, h1, h5, inKept, nsKept _ _ hgl, ⟨rfl, ⟨inKept, nsKept _ _ hgl, ⟨mb, nsKept _ _ hbl, hbo⟩, ⟨mc, nsKept _ _ l1, l2⟩⟩, fun b o z => of_hidT z, ?_, trivial, fun b z => (nomatch z), h4, .of_eq hgs⟩⟩
    rw [hidT_size]
    exact Nat.le_refl _
  cases hk : K.lookup a with
  | some o =>
    have z := hin a o hk
    rw [at_a] at z
    cases z
    exact rest (fun _ => none) (fun _ => .inl rfl) (fun _ _ => rfl) (.inl rfl) (fun _ _ z => nomatch z) (.inr ⟨_, us.toArray, _, hk, rfl, rfl, rfl, by rw [List.size_toArray, ul]; exact few, by simpa using rv⟩)
  | none =>
    refine rest (upd (fun _ => none) a (.frz { cls := .type "list", data := .seq us.toArray } (.lst (ns.map V.int)))) (fun b => ?_) (fun b hb => upd_ne hb) (.inr hk) (fun b u z => ?_) (.inl (.inr ⟨_, upd_same⟩))
    · by_cases hb : b = a
      · rw [hb]; exact .inr ⟨_, _, upd_same⟩
      · exact .inl (upd_ne hb)
    · by_cases hb : b = a
      · subst hb
        rw [upd_same] at z
        cases z
        exact ⟨at_a, by rw [List.length_map]; exact few, us, _, rv, at_a⟩
      · rw [upd_ne hb] at z
        cases z
theorem end_g {l : PySem.W.OpenLaw} {n k : Nat} {q : Program} {loose : List Str} {XP : (Str → Option Value) → Heap → Prop} {YP : World → Heap → Prop} {d : DefRec} {x : Str} (hn : l.most = some n) (hn2 : n ≤ sizeLine) (hdf : d.params.defaults = []) (hr : Room k callerA)
    (F : ∀ (w : World) (mg : Str → Option Value) (fa : Addr) (h : Heap), YP w h → h.Ns mainGlobals mg → mg d.name = some (.ref fa) →
      ∃ (K : PySem.W.Frag) (fd : FuncData) (sp : Sp), K.In h ∧ (∀ (s : Shared) (u : Value), BindsTo s fd ⟨[u], []⟩ [(x, u)]) ∧
        (∀ (H : Hp) (a : Addr) (ns : List Int), ns.length ≤ n → SqL K H a (ns.map V.int) → sp [.ref a] H (fun v _ => v = .bl true) fun _ _ _ => False) ∧
        ∀ base : Heap, K.In base → base.Ns mainGlobals mg → FnG l.prog w K mg base CX0 k fa fd [x] sp) :
    PySem.W.WalkO q loose XP YP l.row.toRowW d [] (fun f vs => PySem.call f vs) := by
  refine Att.attach_call hn hdf fun w s₀ t mg mb fa o pm cd doc a us ns G Y ho hd hcd hmg at_a hi hl hg => ?_
  obtain ⟨K, fd, sp, hin, hb, hsp, hF⟩ := F w mg fa _ Y G.T.g hmg
  obtain ⟨H, base, only, hS, hKb, hgb, e0⟩ := script_env (P := l.prog) (w := w) hin G.T.g G.T.b G.T.builtins G.T.nolimit hg at_a hi (Nat.le_trans hl hn2)
  refine codeAny_mono ((hF base hKb hgb).does callerA rfl hr [] t H e0 ⟨[.ref a], []⟩ [.ref a] [.ref a] (hb t (.ref a)) (.cons rfl .nil) _ _ (hsp H a ns hl hS)) fun r t2 h => ?_
  match r, h with
  | .error e, h => exact (show False from h).elim
  | .ok (.ret u), h =>
    obtain ⟨v, H2, os, bare, un, hok2, rv, qv⟩ := h
    have qv : v = .bl true := qv
    subst qv
    have rv : u = Value.bool true := rv
    subst rv
    refine ⟨rfl, OldK.of_keep fun b o z => ?_, os, bare⟩
    rcases only b with hb | ⟨ob, ys, hb⟩
    · exact un.keep b o z hb (fun y => nomatch y) (fun y => nomatch y)
    · have z1 : t.heap.get? b = some ob := (e0.hok b _ hb).1
      have z2 : t2.heap.get? b = some ob := (hok2 b _ (un.frzs b ob _ hb)).1
      rw [z] at z1
      cases z1
      exact z2
end My

namespace My
open PySem PySem.Spec PyProof.Rows L2 Pre
/-! ### how long shown lists are -/
theorem str_app_len (a b : Str) : (a ++ b).length = a.length + b.length := by
  show (a.cps ++ b.cps).size = _
  rw [Array.size_append]
  rfl
theorem textFrom_le (c : Nat) : ∀ (ts : List Str) (k : Nat) (acc : Str), (∀ t ∈ ts, t.length ≤ c) → (textFrom k acc ts).length ≤ acc.length + ts.length * (c + 2)
  | [], _, acc, _ => by show acc.length ≤ _; simp
  | t :: ts, k, acc, h => by
    show (textFrom (k + 1) _ ts).length ≤ _
    refine Nat.le_trans (textFrom_le c ts (k + 1) _ fun u hu => h u (List.mem_cons_of_mem _ hu)) ?_
    rw [str_app_len, str_app_len, List.length_cons, Nat.succ_mul]
    have h1 := h t List.mem_cons_self
    have h2 : ((if k > 0 then ", " else "" : String) : Str).length ≤ 2 := by
      split <;> decide +kernel
    omega
theorem shownAll_mem : ∀ (ds : List PyData) (c : Nat), (∀ d ∈ ds, d.shown.length ≤ c) → ∀ t ∈ PyData.shownAll ds, t.length ≤ c
  | [], _, _, t, h => by simp [PyData.shownAll] at h
  | d :: ds, c, hd, t, h => by
    rw [PyData.shownAll] at h
    rcases List.mem_cons.mp h with rfl | h
    · exact hd d List.mem_cons_self
    · exact shownAll_mem ds c (fun e he => hd e (List.mem_cons_of_mem _ he)) t h
theorem shownAll_len : ∀ ds : List PyData, (PyData.shownAll ds).length = ds.length
  | [] => by simp [PyData.shownAll]
  | d :: ds => by rw [PyData.shownAll, List.length_cons, List.length_cons, shownAll_len ds]
theorem shown_list {ds : List PyData} {c : Nat} (h : ∀ d ∈ ds, d.shown.length ≤ c) : (PyData.shown (.list ds)).length ≤ 2 + ds.length * (c + 2) := by
  rw [PyData.shown, listText, str_app_len]
  have h1 := textFrom_le c (PyData.shownAll ds) 0 ((("[" : String) : Str)) (shownAll_mem ds c h)
  rw [shownAll_len] at h1
  have h2 : ((("[" : String) : Str)).length = 1 := by decide +kernel
  have h3 : ((("]" : String) : Str)).length = 1 := by decide +kernel
  omega
theorem shown_int {n : Int} {k : Nat} (hk : 0 < k) (h : n.natAbs < 10 ^ k) : (PyData.shown (.int n)).length ≤ k + 1 := by
  rw [PyData.shown]
  have e := int_text_length_le10 hk h
  have e2 : (Str.ofString (toString n)).length = (toString n).length := PySem.ofString_length _
  rw [e2]
  exact e
theorem show_int {n : Int} (h : n.natAbs < 10 ^ 100) : (PyData.int n).showable = true := by
  rw [PyData.showable]
  refine decide_eq_true ?_
  by_cases z : n.natAbs = 0
  · rw [z]; decide
  · rw [Nat.log2_lt z]
    exact Nat.lt_trans h (by decide +kernel)
end My

namespace My
/-! ### lists of folds by their numbers -/
/-- lists of so many counts below b that add up to t -/
def tbl (b : Nat) : Nat → Nat → Nat
  | 0, t => if t = 0 then 1 else 0
  | m + 1, t => ((List.range (min b (t + 1))).map fun c => tbl b m (t - c)).sum
def rsum (n : Nat) (f : Nat → Nat) : Nat := ((List.range n).map f).sum
theorem rsum_zero (f : Nat → Nat) : rsum 0 f = 0 := rfl
theorem rsum_succ (n : Nat) (f : Nat → Nat) : rsum (n + 1) f = rsum n f + f n := by
  unfold rsum
  rw [List.range_succ, List.map_append, List.sum_append]
  simp
theorem rsum_congr {n : Nat} {f g : Nat → Nat} (h : ∀ i, i < n → f i = g i) : rsum n f = rsum n g := by
  unfold rsum
  rw [List.map_congr_left fun i hi => h i (List.mem_range.mp hi)]
theorem rsum_front (n : Nat) (f : Nat → Nat) : rsum (n + 1) f = f 0 + rsum n fun i => f (i + 1) := by
  induction n with
  | zero => rw [rsum_succ, rsum_zero, rsum_zero, Nat.zero_add, Nat.add_zero]
  | succ n ih => rw [rsum_succ, ih, rsum_succ]; omega
theorem tbl_succ (b m t : Nat) : tbl b (m + 1) t = rsum (min b (t + 1)) fun c => tbl b m (t - c) := rfl
/-- the next total of a row, from the one ahead -/
theorem tbl_next {b : Nat} (hb : 0 < b) (m t : Nat) : tbl b (m + 1) (t + 1) + (if b ≤ t + 1 then tbl b m (t + 1 - b) else 0) = tbl b (m + 1) t + tbl b m (t + 1) := by
  rw [tbl_succ, tbl_succ]
  by_cases c : b ≤ t + 1
  · rw [if_pos c, Nat.min_eq_left (by omega), Nat.min_eq_left c]
    obtain ⟨k, rfl⟩ : ∃ k, b = k + 1 := ⟨b - 1, by omega⟩
    rw [rsum_front, rsum_succ]
    have e : rsum k (fun i => tbl (k + 1) m (t + 1 - (i + 1))) = rsum k fun i => tbl (k + 1) m (t - i) := rsum_congr fun i _ => by rw [show t + 1 - (i + 1) = t - i by omega]
    rw [e, show t + 1 - (k + 1) = t - k by omega, Nat.sub_zero]
    omega
  · rw [if_neg c, Nat.min_eq_right (by omega), Nat.min_eq_right (by omega), rsum_front]
    have e : rsum (t + 1) (fun i => tbl b m (t + 1 - (i + 1))) = rsum (t + 1) fun i => tbl b m (t - i) := rsum_congr fun i _ => by rw [show t + 1 - (i + 1) = t - i by omega]
    rw [e, Nat.sub_zero]
    omega
theorem tbl_zero {b : Nat} (hb : 0 < b) (m : Nat) : tbl b m 0 = 1 := by
  induction m with
  | zero => rfl
  | succ m ih =>
    rw [tbl_succ, Nat.min_eq_right (by omega), rsum_succ, rsum_zero, ih]
/-- lists of so many folds, whose upper parts add up to t -/
def cntF (w b m t : Nat) : Nat := 2 ^ (w * m) * tbl b m t
/-- how many lists begin with strokes below k -/
def stF (w b m t k : Nat) : Nat := rsum k fun j => if j ≤ t then 2 ^ w * cntF w b m (t - j) else 0
theorem st_succ (w b m t k : Nat) : stF w b m t (k + 1) = stF w b m t k + (if k ≤ t then 2 ^ w * cntF w b m (t - k) else 0) := rsum_succ _ _
theorem st_mono (w b m t : Nat) {k l : Nat} (h : k ≤ l) : stF w b m t k ≤ stF w b m t l := by
  obtain ⟨d, rfl⟩ := Nat.le.dest h
  induction d with
  | zero => exact Nat.le_refl _
  | succ d ih => exact Nat.le_trans (ih (by omega)) (by rw [← Nat.add_assoc, st_succ]; omega)
theorem rsum_mul (c n : Nat) (f : Nat → Nat) : c * rsum n f = rsum n fun i => c * f i := by
  induction n with
  | zero => rfl
  | succ n ih => rw [rsum_succ, rsum_succ, Nat.mul_add, ih]
theorem st_more (w b m t : Nat) {k : Nat} (h : t + 1 ≤ k) : stF w b m t k = stF w b m t (t + 1) := by
  obtain ⟨d, rfl⟩ := Nat.le.dest h
  induction d with
  | zero => rfl
  | succ d ih => rw [← Nat.add_assoc, st_succ, if_neg (by omega), Nat.add_zero]; exact ih (by omega)
/-- all of them -/
theorem st_all (w b m t : Nat) : stF w b m t b = cntF w b (m + 1) t := by
  have e : cntF w b (m + 1) t = rsum (min b (t + 1)) fun c => 2 ^ w * cntF w b m (t - c) := by
    unfold cntF
    rw [tbl_succ, rsum_mul]
    refine rsum_congr fun i _ => ?_
    rw [Nat.mul_succ, Nat.pow_add, Nat.mul_comm (2 ^ (w * m)), Nat.mul_assoc]
  have e2 : stF w b m t (min b (t + 1)) = cntF w b (m + 1) t := by
    rw [e]
    exact rsum_congr fun i hi => if_pos (by omega)
  rw [← e2]
  rcases Nat.le_total b (t + 1) with c | c
  · rw [Nat.min_eq_left c]
  · rw [Nat.min_eq_right c]
    exact st_more w b m t c
def totF (w : Nat) (fs : List Nat) : Nat := (fs.map fun f => f / 2 ^ w).sum
theorem tot_cons (w f : Nat) (fs : List Nat) : totF w (f :: fs) = f / 2 ^ w + totF w fs := by unfold totF; rw [List.map_cons, List.sum_cons]
/-- the number of a list among those of its total -/
def numF (w b : Nat) : List Nat → Nat
  | [] => 0
  | f :: fs => stF w b fs.length (f / 2 ^ w + totF w fs) (f / 2 ^ w) + cntF w b fs.length (totF w fs) * (f % 2 ^ w) + numF w b fs
theorem num_lt {w b : Nat} : ∀ {fs : List Nat}, (∀ f ∈ fs, f < b * 2 ^ w) → numF w b fs < cntF w b fs.length (totF w fs)
  | [], _ => by
    show 0 < 2 ^ (w * 0) * tbl b 0 0
    rw [Nat.mul_zero]
    exact Nat.lt_of_lt_of_eq (show 0 < 1 by decide) rfl
  | f :: fs, h => by
    have ih := num_lt (fs := fs) fun g hg => h g (List.mem_cons_of_mem _ hg)
    have hf := h f List.mem_cons_self
    have p := Nat.two_pow_pos w
    have hs : f / 2 ^ w < b := (Nat.div_lt_iff_lt_mul p).mpr hf
    have hm : f % 2 ^ w < 2 ^ w := Nat.mod_lt _ p
    rw [tot_cons, List.length_cons, ← st_all]
    have hn := st_succ w b fs.length (f / 2 ^ w + totF w fs) (f / 2 ^ w)
    rw [if_pos (by omega), Nat.add_sub_cancel_left] at hn
    have ht := st_mono w b fs.length (f / 2 ^ w + totF w fs) (show f / 2 ^ w + 1 ≤ b from hs)
    have hc : cntF w b fs.length (totF w fs) * (f % 2 ^ w + 1) ≤ cntF w b fs.length (totF w fs) * 2 ^ w := Nat.mul_le_mul_left _ hm
    rw [Nat.mul_add, Nat.mul_one, Nat.mul_comm _ (2 ^ w)] at hc
    show stF w b fs.length (f / 2 ^ w + totF w fs) (f / 2 ^ w) + cntF w b fs.length (totF w fs) * (f % 2 ^ w) + numF w b fs < _
    omega
/-- numbers keep the order -/
theorem num_mono {w b : Nat} : ∀ {fs gs : List Nat}, fs.length = gs.length → totF w fs = totF w gs → (∀ f ∈ fs, f < b * 2 ^ w) → (∀ g ∈ gs, g < b * 2 ^ w) → fs < gs → numF w b fs < numF w b gs
  | [], [], _, _, _, _, h => absurd h (List.lt_irrefl _)
  | f :: fs, g :: gs, hl, ht, hf, hg, h => by
    have hl' : fs.length = gs.length := by simpa using hl
    have hf' : ∀ x ∈ fs, x < b * 2 ^ w := fun x hx => hf x (List.mem_cons_of_mem _ hx)
    have hg' : ∀ x ∈ gs, x < b * 2 ^ w := fun x hx => hg x (List.mem_cons_of_mem _ hx)
    have p := Nat.two_pow_pos w
    have nf := num_lt hf'
    rw [tot_cons, tot_cons] at ht
    rcases List.cons_lt_cons_iff.mp h with hlt | ⟨rfl, hlt⟩
    · -- an earlier first one
      have df : f = 2 ^ w * (f / 2 ^ w) + f % 2 ^ w := (Nat.div_add_mod f _).symm
      have dg : g = 2 ^ w * (g / 2 ^ w) + g % 2 ^ w := (Nat.div_add_mod g _).symm
      have mf : f % 2 ^ w < 2 ^ w := Nat.mod_lt _ p
      have mg : g % 2 ^ w < 2 ^ w := Nat.mod_lt _ p
      have dm : f / 2 ^ w ≤ g / 2 ^ w := Nat.div_le_div_right (by omega)
      show stF w b fs.length (f / 2 ^ w + totF w fs) (f / 2 ^ w) + cntF w b fs.length (totF w fs) * (f % 2 ^ w) + numF w b fs < stF w b gs.length (g / 2 ^ w + totF w gs) (g / 2 ^ w) + cntF w b gs.length (totF w gs) * (g % 2 ^ w) + numF w b gs
      rw [← hl', ← ht]
      rcases Nat.lt_or_eq_of_le dm with c | c
      · have hs := st_mono w b fs.length (f / 2 ^ w + totF w fs) (show f / 2 ^ w + 1 ≤ g / 2 ^ w from c)
        rw [st_succ, if_pos (by omega), Nat.add_sub_cancel_left] at hs
        have hc : cntF w b fs.length (totF w fs) * (f % 2 ^ w + 1) ≤ cntF w b fs.length (totF w fs) * 2 ^ w := Nat.mul_le_mul_left _ mf
        rw [Nat.mul_add, Nat.mul_one, Nat.mul_comm _ (2 ^ w)] at hc
        omega
      · have et : totF w gs = totF w fs := by omega
        rw [et, ← c]
        have hm : f % 2 ^ w + 1 ≤ g % 2 ^ w := by rw [← c] at dg; omega
        have hc := Nat.mul_le_mul_left (cntF w b fs.length (totF w fs)) hm
        rw [Nat.mul_add, Nat.mul_one] at hc
        omega
    · have et : totF w fs = totF w gs := by omega
      have ih := num_mono hl' et hf' hg' hlt
      show stF w b fs.length (f / 2 ^ w + totF w fs) (f / 2 ^ w) + cntF w b fs.length (totF w fs) * (f % 2 ^ w) + numF w b fs < stF w b gs.length (f / 2 ^ w + totF w gs) (f / 2 ^ w) + cntF w b gs.length (totF w gs) * (f % 2 ^ w) + numF w b gs
      rw [← hl', ← et]
      omega
  | [], _ :: _, hl, _, _, _, _ => by simp at hl
  | _ :: _, [], hl, _, _, _, _ => by simp at hl
/-! ### back from a number -/
/-- the stroke at which a number falls -/
theorem stroke_of (w b m t : Nat) : ∀ (k n : Nat), n < stF w b m t k → ∃ s, s < k ∧ stF w b m t s ≤ n ∧ n < stF w b m t (s + 1)
  | 0, n, h => absurd h (Nat.not_lt_zero n)
  | k + 1, n, h => by
    rcases Nat.lt_or_ge n (stF w b m t k) with c | c
    · obtain ⟨s, h1, h2⟩ := stroke_of w b m t k n c
      exact ⟨s, by omega, h2⟩
    · exact ⟨k, Nat.lt_succ_self k, c, h⟩
/-- what a number tells -/
theorem of_num {w b : Nat} : ∀ (m t n : Nat), n < cntF w b m t → ∃ fs : List Nat, fs.length = m ∧ totF w fs = t ∧ (∀ f ∈ fs, f < b * 2 ^ w) ∧ numF w b fs = n
  | 0, t, n, h => by
    have h' : n < 2 ^ (w * 0) * (if t = 0 then 1 else 0) := h
    rw [Nat.mul_zero] at h'
    by_cases c : t = 0
    · rw [if_pos c] at h'
      exact ⟨[], rfl, c.symm, (fun _ z => nomatch z), by show 0 = n; omega⟩
    · rw [if_neg c] at h'
      omega
  | m + 1, t, n, h => by
    rw [← st_all] at h
    obtain ⟨s, hs, h1, h2⟩ := stroke_of w b m t b n h
    rw [st_succ] at h2
    by_cases c : s ≤ t
    · rw [if_pos c] at h2
      have p := Nat.two_pow_pos w
      have pc : 0 < cntF w b m (t - s) := Nat.pos_of_ne_zero fun z => by rw [z, Nat.mul_zero] at h2; omega
      obtain ⟨fs, e1, e2, e3, e4⟩ := of_num m (t - s) ((n - stF w b m t s) % cntF w b m (t - s)) (Nat.mod_lt _ pc)
      have hq : (n - stF w b m t s) / cntF w b m (t - s) < 2 ^ w := (Nat.div_lt_iff_lt_mul pc).mpr (by omega)
      have d1 : (s * 2 ^ w + (n - stF w b m t s) / cntF w b m (t - s)) / 2 ^ w = s := by
        rw [Nat.mul_comm, Nat.mul_add_div p, Nat.div_eq_of_lt hq, Nat.add_zero]
      have d2 : (s * 2 ^ w + (n - stF w b m t s) / cntF w b m (t - s)) % 2 ^ w = (n - stF w b m t s) / cntF w b m (t - s) := by
        rw [Nat.mul_comm, Nat.mul_add_mod, Nat.mod_eq_of_lt hq]
      refine ⟨(s * 2 ^ w + (n - stF w b m t s) / cntF w b m (t - s)) :: fs, by rw [List.length_cons, e1], by rw [tot_cons, d1, e2]; omega, fun f hf => ?_, ?_⟩
      · rcases List.mem_cons.mp hf with rfl | hf
        · have : (s + 1) * 2 ^ w ≤ b * 2 ^ w := Nat.mul_le_mul_right _ hs
          rw [Nat.add_mul, Nat.one_mul] at this
          omega
        · exact e3 f hf
      · show stF w b fs.length (_ / 2 ^ w + totF w fs) (_ / 2 ^ w) + cntF w b fs.length (totF w fs) * (_ % 2 ^ w) + numF w b fs = n
        rw [d1, d2, e1, e2, e4, show s + (t - s) = t by omega]
        have := Nat.div_add_mod (n - stF w b m t s) (cntF w b m (t - s))
        omega
    · rw [if_neg c] at h2
      omega
theorem lists_tri (fs gs : List Nat) : fs < gs ∨ fs = gs ∨ gs < fs := by
  by_cases a : fs < gs
  · exact .inl a
  · by_cases b : gs < fs
    · exact .inr (.inr b)
    · exact .inr (.inl (List.le_antisymm (List.not_lt.mp b) (List.not_lt.mp a)))
theorem num_inj {w b : Nat} {fs gs : List Nat} (hl : fs.length = gs.length) (ht : totF w fs = totF w gs) (hf : ∀ f ∈ fs, f < b * 2 ^ w) (hg : ∀ g ∈ gs, g < b * 2 ^ w) (e : numF w b fs = numF w b gs) : fs = gs := by
  rcases lists_tri fs gs with h | h | h
  · have := num_mono hl ht hf hg h
    omega
  · exact h
  · have := num_mono hl.symm ht.symm hg hf h
    omega
theorem num_lt_iff {w b : Nat} {fs gs : List Nat} (hl : fs.length = gs.length) (ht : totF w fs = totF w gs) (hf : ∀ f ∈ fs, f < b * 2 ^ w) (hg : ∀ g ∈ gs, g < b * 2 ^ w) : numF w b fs < numF w b gs ↔ fs < gs := by
  refine ⟨fun e => ?_, num_mono hl ht hf hg⟩
  rcases lists_tri fs gs with h | h | h
  · exact h
  · rw [h] at e; omega
  · have := num_mono hl.symm ht.symm hg hf h
    omega
end My

namespace My
/-! ### choosing, and lists of numbers by their sums -/
def choN (m : Nat) : Nat → Nat
  | 0 => 1
  | t + 1 => choN m t * (m - t) / (t + 1)
def chosenN (m f : Nat) : Nat := if f > m then 0 else choN m f
def partN (m b t u : Nat) : Nat := chosenN m u * chosenN (t - u * b + m - 1) (m - 1)
def sumTo (m b t : Nat) : Nat → Int
  | 0 => 0
  | u + 1 => sumTo m b t u + (if u % 2 = 0 then (partN m b t u : Int) else 0 - (partN m b t u : Int))
def sumsF (m b : Nat) (t : Int) : Int := if m = 0 ∨ t < 0 then (if m = 0 ∧ t = 0 then 1 else 0) else sumTo m b t.toNat (min m (t.toNat / b) + 1)
def howF (d w m : Nat) (s : Int) : Int := sumsF m (2 ^ (d - w)) (s - m * (w + 1)) * 2 ^ (w * m)
/-- the parts are not too great to be multiplied -/
def Mild (m b : Nat) (t : Int) : Prop := (∀ u, u ≤ min m (t.toNat / b) → chosenN m u < 2 ^ 64) ∧ -(2 ^ 64) < sumsF m b t ∧ sumsF m b t < 2 ^ 64
/-! ### tables of lists of counts -/
def tabs : Nat → List (List Nat)
  | 0 => [[1],
    [1],
    [1],
    [1],
    [1],
    [1],
    [1],
    [1],
    [1],
    [1],
    [1],
    [1],
    [1],
    [1]]
  | 1 => [[1, 0, 0, 0, 0, 0, 0, 0, 0, 0, 0, 0, 0, 0],
    [1, 1, 0, 0, 0, 0, 0, 0, 0, 0, 0, 0, 0, 0],
    [1, 2, 1, 0, 0, 0, 0, 0, 0, 0, 0, 0, 0, 0],
    [1, 3, 3, 1, 0, 0, 0, 0, 0, 0, 0, 0, 0, 0],
    [1, 4, 6, 4, 1, 0, 0, 0, 0, 0, 0, 0, 0, 0],
    [1, 5, 10, 10, 5, 1, 0, 0, 0, 0, 0, 0, 0, 0],
    [1, 6, 15, 20, 15, 6, 1, 0, 0, 0, 0, 0, 0, 0],
    [1, 7, 21, 35, 35, 21, 7, 1, 0, 0, 0, 0, 0, 0],
    [1, 8, 28, 56, 70, 56, 28, 8, 1, 0, 0, 0, 0, 0],
    [1, 9, 36, 84, 126, 126, 84, 36, 9, 1, 0, 0, 0, 0],
    [1, 10, 45, 120, 210, 252, 210, 120, 45, 10, 1, 0, 0, 0],
    [1, 11, 55, 165, 330, 462, 462, 330, 165, 55, 11, 1, 0, 0],
    [1, 12, 66, 220, 495, 792, 924, 792, 495, 220, 66, 12, 1, 0],
    [1, 13, 78, 286, 715, 1287, 1716, 1716, 1287, 715, 286, 78, 13, 1]]
  | 2 => [[1, 0, 0, 0, 0, 0, 0, 0, 0, 0, 0, 0, 0, 0, 0, 0, 0, 0, 0, 0, 0, 0, 0, 0, 0, 0, 0, 0, 0, 0, 0, 0, 0, 0, 0, 0, 0, 0, 0, 0],
    [1, 1, 1, 1, 0, 0, 0, 0, 0, 0, 0, 0, 0, 0, 0, 0, 0, 0, 0, 0, 0, 0, 0, 0, 0, 0, 0, 0, 0, 0, 0, 0, 0, 0, 0, 0, 0, 0, 0, 0],
    [1, 2, 3, 4, 3, 2, 1, 0, 0, 0, 0, 0, 0, 0, 0, 0, 0, 0, 0, 0, 0, 0, 0, 0, 0, 0, 0, 0, 0, 0, 0, 0, 0, 0, 0, 0, 0, 0, 0, 0],
    [1, 3, 6, 10, 12, 12, 10, 6, 3, 1, 0, 0, 0, 0, 0, 0, 0, 0, 0, 0, 0, 0, 0, 0, 0, 0, 0, 0, 0, 0, 0, 0, 0, 0, 0, 0, 0, 0, 0, 0],
    [1, 4, 10, 20, 31, 40, 44, 40, 31, 20, 10, 4, 1, 0, 0, 0, 0, 0, 0, 0, 0, 0, 0, 0, 0, 0, 0, 0, 0, 0, 0, 0, 0, 0, 0, 0, 0, 0, 0, 0],
    [1, 5, 15, 35, 65, 101, 135, 155, 155, 135, 101, 65, 35, 15, 5, 1, 0, 0, 0, 0, 0, 0, 0, 0, 0, 0, 0, 0, 0, 0, 0, 0, 0, 0, 0, 0, 0, 0, 0, 0],
    [1, 6, 21, 56, 120, 216, 336, 456, 546, 580, 546, 456, 336, 216, 120, 56, 21, 6, 1, 0, 0, 0, 0, 0, 0, 0, 0, 0, 0, 0, 0, 0, 0, 0, 0, 0, 0, 0, 0, 0],
    [1, 7, 28, 84, 203, 413, 728, 1128, 1554, 1918, 2128, 2128, 1918, 1554, 1128, 728, 413, 203, 84, 28, 7, 1, 0, 0, 0, 0, 0, 0, 0, 0, 0, 0, 0, 0, 0, 0, 0, 0, 0, 0],
    [1, 8, 36, 120, 322, 728, 1428, 2472, 3823, 5328, 6728, 7728, 8092, 7728, 6728, 5328, 3823, 2472, 1428, 728, 322, 120, 36, 8, 1, 0, 0, 0, 0, 0, 0, 0, 0, 0, 0, 0, 0, 0, 0, 0],
    [1, 9, 45, 165, 486, 1206, 2598, 4950, 8451, 13051, 18351, 23607, 27876, 30276, 30276, 27876, 23607, 18351, 13051, 8451, 4950, 2598, 1206, 486, 165, 45, 9, 1, 0, 0, 0, 0, 0, 0, 0, 0, 0, 0, 0, 0],
    [1, 10, 55, 220, 705, 1902, 4455, 9240, 17205, 29050, 44803, 63460, 82885, 100110, 112035, 116304, 112035, 100110, 82885, 63460, 44803, 29050, 17205, 9240, 4455, 1902, 705, 220, 55, 10, 1, 0, 0, 0, 0, 0, 0, 0, 0, 0],
    [1, 11, 66, 286, 990, 2882, 7282, 16302, 32802, 59950, 100298, 154518, 220198, 291258, 358490, 411334, 440484, 440484, 411334, 358490, 291258, 220198, 154518, 100298, 59950, 32802, 16302, 7282, 2882, 990, 286, 66, 11, 1, 0, 0, 0, 0, 0, 0],
    [1, 12, 78, 364, 1353, 4224, 11440, 27456, 59268, 116336, 209352, 347568, 534964, 766272, 1024464, 1281280, 1501566, 1650792, 1703636, 1650792, 1501566, 1281280, 1024464, 766272, 534964, 347568, 209352, 116336, 59268, 27456, 11440, 4224, 1353, 364, 78, 12, 1, 0, 0, 0],
    [1, 13, 91, 455, 1807, 6019, 17381, 44473, 102388, 214500, 412412, 732524, 1208220, 1858156, 2673268, 3606980, 4573582, 5458102, 6137274, 6506786, 6506786, 6137274, 5458102, 4573582, 3606980, 2673268, 1858156, 1208220, 732524, 412412, 214500, 102388, 44473, 17381, 6019, 1807, 455, 91, 13, 1]]
  | 3 => [[1, 0, 0, 0, 0, 0, 0, 0, 0, 0, 0, 0, 0, 0, 0, 0, 0, 0, 0, 0, 0, 0, 0, 0, 0, 0, 0, 0, 0, 0, 0, 0, 0, 0, 0, 0, 0, 0, 0, 0, 0, 0, 0, 0, 0, 0, 0, 0, 0, 0, 0, 0, 0, 0, 0, 0, 0, 0, 0, 0, 0, 0, 0, 0, 0, 0, 0, 0, 0, 0, 0, 0, 0, 0, 0, 0, 0, 0, 0, 0, 0, 0, 0, 0, 0, 0, 0, 0, 0, 0, 0, 0],
    [1, 1, 1, 1, 1, 1, 1, 1, 0, 0, 0, 0, 0, 0, 0, 0, 0, 0, 0, 0, 0, 0, 0, 0, 0, 0, 0, 0, 0, 0, 0, 0, 0, 0, 0, 0, 0, 0, 0, 0, 0, 0, 0, 0, 0, 0, 0, 0, 0, 0, 0, 0, 0, 0, 0, 0, 0, 0, 0, 0, 0, 0, 0, 0, 0, 0, 0, 0, 0, 0, 0, 0, 0, 0, 0, 0, 0, 0, 0, 0, 0, 0, 0, 0, 0, 0, 0, 0, 0, 0, 0, 0],
    [1, 2, 3, 4, 5, 6, 7, 8, 7, 6, 5, 4, 3, 2, 1, 0, 0, 0, 0, 0, 0, 0, 0, 0, 0, 0, 0, 0, 0, 0, 0, 0, 0, 0, 0, 0, 0, 0, 0, 0, 0, 0, 0, 0, 0, 0, 0, 0, 0, 0, 0, 0, 0, 0, 0, 0, 0, 0, 0, 0, 0, 0, 0, 0, 0, 0, 0, 0, 0, 0, 0, 0, 0, 0, 0, 0, 0, 0, 0, 0, 0, 0, 0, 0, 0, 0, 0, 0, 0, 0, 0, 0],
    [1, 3, 6, 10, 15, 21, 28, 36, 42, 46, 48, 48, 46, 42, 36, 28, 21, 15, 10, 6, 3, 1, 0, 0, 0, 0, 0, 0, 0, 0, 0, 0, 0, 0, 0, 0, 0, 0, 0, 0, 0, 0, 0, 0, 0, 0, 0, 0, 0, 0, 0, 0, 0, 0, 0, 0, 0, 0, 0, 0, 0, 0, 0, 0, 0, 0, 0, 0, 0, 0, 0, 0, 0, 0, 0, 0, 0, 0, 0, 0, 0, 0, 0, 0, 0, 0, 0, 0, 0, 0, 0, 0],
    [1, 4, 10, 20, 35, 56, 84, 120, 161, 204, 246, 284, 315, 336, 344, 336, 315, 284, 246, 204, 161, 120, 84, 56, 35, 20, 10, 4, 1, 0, 0, 0, 0, 0, 0, 0, 0, 0, 0, 0, 0, 0, 0, 0, 0, 0, 0, 0, 0, 0, 0, 0, 0, 0, 0, 0, 0, 0, 0, 0, 0, 0, 0, 0, 0, 0, 0, 0, 0, 0, 0, 0, 0, 0, 0, 0, 0, 0, 0, 0, 0, 0, 0, 0, 0, 0, 0, 0, 0, 0, 0, 0],
    [1, 5, 15, 35, 70, 126, 210, 330, 490, 690, 926, 1190, 1470, 1750, 2010, 2226, 2380, 2460, 2460, 2380, 2226, 2010, 1750, 1470, 1190, 926, 690, 490, 330, 210, 126, 70, 35, 15, 5, 1, 0, 0, 0, 0, 0, 0, 0, 0, 0, 0, 0, 0, 0, 0, 0, 0, 0, 0, 0, 0, 0, 0, 0, 0, 0, 0, 0, 0, 0, 0, 0, 0, 0, 0, 0, 0, 0, 0, 0, 0, 0, 0, 0, 0, 0, 0, 0, 0, 0, 0, 0, 0, 0, 0, 0, 0],
    [1, 6, 21, 56, 126, 252, 462, 792, 1281, 1966, 2877, 4032, 5432, 7056, 8856, 10752, 12642, 14412, 15946, 17136, 17892, 18152, 17892, 17136, 15946, 14412, 12642, 10752, 8856, 7056, 5432, 4032, 2877, 1966, 1281, 792, 462, 252, 126, 56, 21, 6, 1, 0, 0, 0, 0, 0, 0, 0, 0, 0, 0, 0, 0, 0, 0, 0, 0, 0, 0, 0, 0, 0, 0, 0, 0, 0, 0, 0, 0, 0, 0, 0, 0, 0, 0, 0, 0, 0, 0, 0, 0, 0, 0, 0, 0, 0, 0, 0, 0, 0],
    [1, 7, 28, 84, 210, 462, 924, 1716, 2996, 4956, 7812, 11788, 17094, 23898, 32292, 42252, 53613, 66059, 79128, 92232, 104692, 115788, 124824, 131208, 134512, 134512, 131208, 124824, 115788, 104692, 92232, 79128, 66059, 53613, 42252, 32292, 23898, 17094, 11788, 7812, 4956, 2996, 1716, 924, 462, 210, 84, 28, 7, 1, 0, 0, 0, 0, 0, 0, 0, 0, 0, 0, 0, 0, 0, 0, 0, 0, 0, 0, 0, 0, 0, 0, 0, 0, 0, 0, 0, 0, 0, 0, 0, 0, 0, 0, 0, 0, 0, 0, 0, 0, 0, 0],
    [1, 8, 36, 120, 330, 792, 1716, 3432, 6427, 11376, 19160, 30864, 47748, 71184, 102552, 143088, 193705, 254808, 326124, 406568, 494166, 586056, 678588, 767544, 848443, 916896, 968976, 1001568, 1012664, 1001568, 968976, 916896, 848443, 767544, 678588, 586056, 494166, 406568, 326124, 254808, 193705, 143088, 102552, 71184, 47748, 30864, 19160, 11376, 6427, 3432, 1716, 792, 330, 120, 36, 8, 1, 0, 0, 0, 0, 0, 0, 0, 0, 0, 0, 0, 0, 0, 0, 0, 0, 0, 0, 0, 0, 0, 0, 0, 0, 0, 0, 0, 0, 0, 0, 0, 0, 0, 0, 0],
    [1, 9, 45, 165, 495, 1287, 3003, 6435, 12861, 24229, 43353, 74097, 121515, 191907, 292743, 432399, 619677, 863109, 1170073, 1545777, 1992195, 2507067, 3083103, 3707559, 4362297, 5024385, 5667237, 6262237, 6780735, 7196247, 7486635, 7635987, 7635987, 7486635, 7196247, 6780735, 6262237, 5667237, 5024385, 4362297, 3707559, 3083103, 2507067, 1992195, 1545777, 1170073, 863109, 619677, 432399, 292743, 191907, 121515, 74097, 43353, 24229, 12861, 6435, 3003, 1287, 495, 165, 45, 9, 1, 0, 0, 0, 0, 0, 0, 0, 0, 0, 0, 0, 0, 0, 0, 0, 0, 0, 0, 0, 0, 0, 0, 0, 0, 0, 0, 0, 0],
    [1, 10, 55, 220, 715, 2002, 5005, 11440, 24300, 48520, 91828, 165760, 286780, 477400, 767140, 1193104, 1799920, 2638800, 3765520, 5237200, 7107880, 9423040, 12213400, 15488560, 19231180, 23392456, 27889620, 32606080, 37394620, 42083800, 46487332, 50415760, 53689450, 56151700, 57680710, 58199208, 57680710, 56151700, 53689450, 50415760, 46487332, 42083800, 37394620, 32606080, 27889620, 23392456, 19231180, 15488560, 12213400, 9423040, 7107880, 5237200, 3765520, 2638800, 1799920, 1193104, 767140, 477400, 286780, 165760, 91828, 48520, 24300, 11440, 5005, 2002, 715, 220, 55, 10, 1, 0, 0, 0, 0, 0, 0, 0, 0, 0, 0, 0, 0, 0, 0, 0, 0, 0, 0, 0, 0, 0],
    [1, 11, 66, 286, 1001, 3003, 8008, 19448, 43747, 92257, 184030, 349570, 635635, 1111033, 1873168, 3054832, 4830452, 7420732, 11094424, 16165864, 22986964, 31932604, 43378864, 57674320, 75105580, 95859236, 119983336, 147352216, 177638956, 210299716, 244573648, 279500848, 313959118, 346718362, 376509452, 402102580, 422388670, 436456570, 443658688, 443658688, 436456570, 422388670, 402102580, 376509452, 346718362, 313959118, 279500848, 244573648, 210299716, 177638956, 147352216, 119983336, 95859236, 75105580, 57674320, 43378864, 31932604, 22986964, 16165864, 11094424, 7420732, 4830452, 3054832, 1873168, 1111033, 635635, 349570, 184030, 92257, 43747, 19448, 8008, 3003, 1001, 286, 66, 11, 1, 0, 0, 0, 0, 0, 0, 0, 0, 0, 0, 0, 0, 0, 0],
    [1, 12, 78, 364, 1365, 4368, 12376, 31824, 75570, 167816, 351780, 701064, 1335698, 2443728, 4308888, 7344272, 12130977, 19459452, 30369846, 46186140, 68537469, 99359040, 140864736, 195484224, 265759352, 354197856, 463086768, 594273120, 748925112, 927292224, 1128487008, 1350313536, 1589167074, 1840026200, 2096552316, 2351302680, 2596052394, 2822209248, 3021294288, 3185452128, 3307949580, 3383619888, 3409213016, 3383619888, 3307949580, 3185452128, 3021294288, 2822209248, 2596052394, 2351302680, 2096552316, 1840026200, 1589167074, 1350313536, 1128487008, 927292224, 748925112, 594273120, 463086768, 354197856, 265759352, 195484224, 140864736, 99359040, 68537469, 46186140, 30369846, 19459452, 12130977, 7344272, 4308888, 2443728, 1335698, 701064, 351780, 167816, 75570, 31824, 12376, 4368, 1365, 364, 78, 12, 1, 0, 0, 0, 0, 0, 0, 0],
    [1, 13, 91, 455, 1820, 6188, 18564, 50388, 125957, 293761, 645463, 1346163, 2680496, 5119856, 9416368, 16728816, 28784223, 48075859, 78093925, 123579001, 190780772, 287696084, 424251932, 612391884, 866020259, 1200758663, 1633475585, 2181562565, 2861950208, 3689883392, 4677505664, 5832334976, 7155742698, 8641571042, 10275036590, 12032066150, 13879193432, 15774110456, 17666917736, 19502056328, 21220838834, 22764432522, 24077093222, 25109410430, 25821307616, 26184550496, 26184550496, 25821307616, 25109410430, 24077093222, 22764432522, 21220838834, 19502056328, 17666917736, 15774110456, 13879193432, 12032066150, 10275036590, 8641571042, 7155742698, 5832334976, 4677505664, 3689883392, 2861950208, 2181562565, 1633475585, 1200758663, 866020259, 612391884, 424251932, 287696084, 190780772, 123579001, 78093925, 48075859, 28784223, 16728816, 9416368, 5119856, 2680496, 1346163, 645463, 293761, 125957, 50388, 18564, 6188, 1820, 455, 91, 13, 1]]
  | _ => []
def chkR : Nat → List Nat → List Nat → List Nat → Bool
  | acc, x :: xs, y :: ys, z :: zs => (acc + x == y + z) && chkR z xs ys zs
  | _, [], _, [] => true
  | _, _, _, _ => false
def chkT (b : Nat) : List (List Nat) → Bool
  | r0 :: r1 :: rest => chkR 0 r0 (List.replicate b 0 ++ r0) r1 && chkT b (r1 :: rest)
  | _ => true
def lagT (b m j : Nat) : Nat := if b ≤ j then tbl b m (j - b) else 0
def accT (b m t : Nat) : Nat := if t = 0 then 0 else tbl b (m + 1) (t - 1)
theorem acc_next {b : Nat} (hb : 0 < b) (m t : Nat) : accT b m t + tbl b m t = lagT b m t + tbl b (m + 1) t := by
  unfold accT lagT
  cases t with
  | zero =>
    rw [if_pos rfl, if_neg (by omega), tbl_zero hb, tbl_zero hb]
  | succ t =>
    rw [if_neg (by omega), Nat.add_sub_cancel]
    have := tbl_next hb m t
    omega
theorem chkR_ok {b : Nat} (hb : 0 < b) (m : Nat) : ∀ (n t : Nat) (ys zs : List Nat), chkR (accT b m t) ((List.range n).map fun i => tbl b m (t + i)) ys zs = true → (∀ i, i < n → ys[i]? = some (lagT b m (t + i))) → zs = (List.range n).map fun i => tbl b (m + 1) (t + i)
  | 0, t, ys, zs, h, _ => by
    cases zs with
    | nil => rfl
    | cons z zs => simp [chkR] at h
  | n + 1, t, ys, zs, h, hy => by
    rw [List.range_succ_eq_map, List.map_cons, List.map_map] at h
    rw [List.range_succ_eq_map, List.map_cons, List.map_map]
    have h0 := hy 0 (by omega)
    cases ys with
    | nil => simp at h0
    | cons y ys =>
      cases zs with
      | nil => simp [chkR] at h
      | cons z zs =>
        have ey : y = lagT b m (t + 0) := by simpa using h0
        have h' : ((accT b m t + tbl b m (t + 0) == y + z) && chkR z ((List.range n).map ((fun i => tbl b m (t + i)) ∘ Nat.succ)) ys zs) = true := h
        rw [Bool.and_eq_true, beq_iff_eq] at h'
        have ea := acc_next hb m t
        have ez : z = tbl b (m + 1) t := by
          have := h'.1
          rw [ey, Nat.add_zero] at this
          omega
        have e2 : ∀ f : Nat → Nat, ((fun i => f (t + i)) ∘ Nat.succ) = fun i => f (t + 1 + i) := fun f => funext fun i => by
          show f (t + (i + 1)) = f (t + 1 + i)
          rw [show t + (i + 1) = t + 1 + i by omega]
        have h2 := h'.2
        rw [e2 (tbl b m), ez, show tbl b (m + 1) t = accT b m (t + 1) from by unfold accT; rw [if_neg (by omega), Nat.add_sub_cancel]] at h2
        have ih := chkR_ok hb m n (t + 1) ys zs h2 fun i hi => by
          have := hy (i + 1) (by omega)
          rw [show t + (i + 1) = t + 1 + i by omega] at this
          simpa using this
        rw [e2 (tbl b (m + 1)), ih, ez]
        rfl
theorem chkT_ok {b n : Nat} (hb : 0 < b) : ∀ (rows : List (List Nat)) (m k : Nat) (row : List Nat), chkT b rows = true → rows[0]? = some ((List.range n).map (tbl b m)) → rows[k]? = some row → row = (List.range n).map (tbl b (m + k))
  | rows, m, 0, row, _, h0, hk => by
    rw [h0] at hk
    exact (Option.some.inj hk).symm
  | [], m, k + 1, row, _, h0, _ => by simp at h0
  | [r0], m, k + 1, row, _, _, hk => by simp at hk
  | r0 :: r1 :: rest, m, k + 1, row, h, h0, hk => by
    have e0 : r0 = (List.range n).map (tbl b m) := by simpa using h0
    have h' : (chkR 0 r0 (List.replicate b 0 ++ r0) r1 && chkT b (r1 :: rest)) = true := h
    rw [Bool.and_eq_true] at h'
    have e1 : r1 = (List.range n).map (tbl b (m + 1)) := by
      have h1 := h'.1
      have := chkR_ok hb m n 0 (List.replicate b 0 ++ r0) r1 (by
        have ef : (fun i => tbl b m (0 + i)) = tbl b m := funext fun i => by rw [Nat.zero_add]
        rw [ef, ← e0]
        exact h1) fun i hi => by
          rw [Nat.zero_add]
          unfold lagT
          by_cases c : b ≤ i
          · rw [if_pos c, List.getElem?_append_right (by rw [List.length_replicate]; exact c), List.length_replicate, e0, List.getElem?_map, List.getElem?_range (by omega)]
            rfl
          · rw [if_neg c, List.getElem?_append_left (by rw [List.length_replicate]; omega), List.getElem?_replicate, if_pos (by omega)]
      rw [this]
      refine List.map_congr_left fun i _ => ?_
      rw [Nat.zero_add]
    have := chkT_ok hb (r1 :: rest) (m + 1) k row h'.2 (by rw [e1]; rfl) (by simpa using hk)
    rw [this, show m + 1 + k = m + (k + 1) by omega]
theorem tabs_chk : ∀ r : Fin 4, chkT (2 ^ r.val) (tabs r) = true ∧ (tabs r).length = 14 ∧ (tabs r)[0]? = some (1 :: List.replicate (13 * (2 ^ r.val - 1)) 0) ∧ ((tabs r).all fun l => l.all fun v => decide (v < 2 ^ 64)) = true := by decide +kernel
theorem row0 (b T : Nat) : (1 :: List.replicate T 0) = (List.range (T + 1)).map (tbl b 0) := by
  refine List.ext_getElem? fun i => ?_
  rw [List.getElem?_map]
  cases i with
  | zero =>
    rw [List.getElem?_range (by omega)]
    rfl
  | succ i =>
    rw [List.getElem?_cons_succ, List.getElem?_replicate]
    by_cases c : i < T
    · rw [if_pos c, List.getElem?_range (by omega)]
      show some 0 = some (if i + 1 = 0 then 1 else 0)
      rw [if_neg (by omega)]
    · rw [if_neg c, List.getElem?_eq_none (by rw [List.length_range]; omega)]
      rfl
theorem tabs_tbl {r m : Nat} (hr : r < 4) (hm : m < 14) : ∃ row, (tabs r)[m]? = some row ∧ row = (List.range (13 * (2 ^ r - 1) + 1)).map (tbl (2 ^ r) m) := by
  obtain ⟨h1, h2, h3, _⟩ := tabs_chk ⟨r, hr⟩
  simp only at h1 h2 h3
  refine ⟨(tabs r)[m]'(by omega), List.getElem?_eq_getElem (by omega), ?_⟩
  have := chkT_ok (n := 13 * (2 ^ r - 1) + 1) (Nat.two_pow_pos r) (tabs r) 0 m _ h1 (by rw [h3, row0]) (List.getElem?_eq_getElem (by omega))
  rw [this, Nat.zero_add]
theorem tbl_small {r m t : Nat} (hr : r < 4) (hm : m < 14) (ht : t ≤ 13 * (2 ^ r - 1)) : tbl (2 ^ r) m t < 2 ^ 64 := by
  obtain ⟨row, h1, h2⟩ := tabs_tbl hr hm
  have h4 := (tabs_chk ⟨r, hr⟩).2.2.2
  simp only at h4
  have h5 := List.all_eq_true.mp (List.all_eq_true.mp h4 row (List.mem_of_getElem? h1)) (tbl (2 ^ r) m t) (by
    rw [h2]
    exact List.mem_map.mpr ⟨t, List.mem_range.mpr (by omega), rfl⟩)
  exact of_decide_eq_true h5
def chkS (r : Nat) : Nat → List (List Nat) → Bool
  | m, row :: rest => ((row.take (m * (2 ^ r - 1) + 1)).zipIdx.all fun p => decide (sumsF m (2 ^ r) ((p.2 : Nat) : Int) = ((p.1 : Nat) : Int))) && chkS r (m + 1) rest
  | _, [] => true
theorem chkS_ok (r : Nat) : ∀ (rows : List (List Nat)) (m k : Nat) (row : List Nat), chkS r m rows = true → rows[k]? = some row → ((row.take ((m + k) * (2 ^ r - 1) + 1)).zipIdx.all fun p => decide (sumsF (m + k) (2 ^ r) ((p.2 : Nat) : Int) = ((p.1 : Nat) : Int))) = true
  | [], _, _, _, _, h => by simp at h
  | r0 :: rest, m, 0, row, h, hk => by
    have h' : (_ && chkS r (m + 1) rest) = true := h
    rw [Bool.and_eq_true] at h'
    have e : r0 = row := by simpa using hk
    rw [← e]
    exact h'.1
  | r0 :: rest, m, k + 1, row, h, hk => by
    have h' : (_ && chkS r (m + 1) rest) = true := h
    rw [Bool.and_eq_true] at h'
    have := chkS_ok r rest (m + 1) k row h'.2 (by simpa using hk)
    rw [show m + 1 + k = m + (k + 1) by omega] at this
    exact this
theorem sums_chk : ∀ r : Fin 4, chkS r 0 (tabs r) = true := by decide +kernel
theorem sums_tbl {r m t : Nat} (hr : r < 4) (hm : m < 14) (ht : t ≤ m * (2 ^ r - 1)) : sumsF m (2 ^ r) (t : Int) = ((tbl (2 ^ r) m t : Nat) : Int) := by
  obtain ⟨row, h1, h2⟩ := tabs_tbl hr hm
  have h := chkS_ok r (tabs r) 0 m row (sums_chk ⟨r, hr⟩) h1
  rw [Nat.zero_add] at h
  have hT : m * (2 ^ r - 1) ≤ 13 * (2 ^ r - 1) := Nat.mul_le_mul_right _ (by omega)
  have hmem : (tbl (2 ^ r) m t, t) ∈ (row.take (m * (2 ^ r - 1) + 1)).zipIdx := by
    rw [List.mem_zipIdx_iff_getElem?]
    show (row.take _)[t]? = some (tbl (2 ^ r) m t)
    rw [List.getElem?_take, if_pos (by omega), h2, List.getElem?_map, List.getElem?_range (by omega)]
    rfl
  exact of_decide_eq_true (List.all_eq_true.mp h _ hmem)
theorem cho13 : ∀ m : Fin 14, ∀ u : Fin 14, chosenN m u < 2 ^ 64 := by decide +kernel
theorem mild_tbl {r m t : Nat} (hr : r < 4) (hm : m < 14) (ht : t ≤ m * (2 ^ r - 1)) : Mild m (2 ^ r) (t : Int) := by
  have hT : m * (2 ^ r - 1) ≤ 13 * (2 ^ r - 1) := Nat.mul_le_mul_right _ (by omega)
  have hs := tbl_small hr hm (Nat.le_trans ht hT)
  refine ⟨fun u hu => cho13 ⟨m, hm⟩ ⟨u, by omega⟩, ?_, ?_⟩
  · rw [sums_tbl hr hm ht]; omega
  · rw [sums_tbl hr hm ht]; omega
end My

namespace My
/-! ### folds of rests, lists of them in order -/
def foldI (n : Int) : Int := if n ≥ 0 then 2 * n else -2 * n - 1
def foldN (n : Int) : Nat := (foldI n).toNat
def unfoldI (f : Nat) : Int := if f % 2 = 0 then ((f / 2 : Nat) : Int) else 0 - (((f + 1) / 2 : Nat) : Int)
theorem fold_cast (n : Int) : foldI n = ((foldN n : Nat) : Int) := by
  unfold foldN foldI
  split <;> omega
theorem two_pred {d : Nat} (h : 1 ≤ d) : (2 ^ d : Nat) = 2 * 2 ^ (d - 1) := by
  obtain ⟨k, rfl⟩ : ∃ k, d = k + 1 := ⟨d - 1, by omega⟩
  rw [Nat.add_sub_cancel, Nat.pow_succ, Nat.mul_comm]
theorem pow_cast (k : Nat) : ((2 ^ k : Nat) : Int) = 2 ^ k := by rw [Int.natCast_pow]; rfl
theorem fold_lt {d : Nat} {n : Int} (h : 1 ≤ d) (h1 : -(2 ^ (d - 1)) ≤ n) (h2 : n ≤ 2 ^ (d - 1) - 1) : foldN n < 2 ^ d := by
  have e := two_pred h
  have c := pow_cast (d - 1)
  have := fold_cast n
  unfold foldI at this
  split at this <;> omega
theorem unfold_fold (n : Int) : unfoldI (foldN n) = n := by
  have := fold_cast n
  unfold foldI at this
  unfold unfoldI
  split at this
  · rw [if_pos (by omega)]; omega
  · rw [if_neg (by omega)]; omega
theorem fold_unfold (f : Nat) : foldN (unfoldI f) = f := by
  have := fold_cast (unfoldI f)
  unfold foldI unfoldI at this
  unfold unfoldI
  by_cases h : f % 2 = 0
  · rw [if_pos h] at this ⊢
    rw [if_pos (by omega)] at this
    omega
  · rw [if_neg h] at this ⊢
    rw [if_neg (by omega)] at this
    omega
theorem unfold_bound {d f : Nat} (h : 1 ≤ d) (hf : f < 2 ^ d) : -(2 ^ (d - 1)) ≤ unfoldI f ∧ unfoldI f ≤ 2 ^ (d - 1) - 1 := by
  have e := two_pred h
  have c := pow_cast (d - 1)
  unfold unfoldI
  split <;> omega
def foldsF (ws : List Int) (sh d : Nat) (row : List Int) : List Nat := (restsF ws sh d row).map foldN
def intsN (fs : List Nat) : List Int := fs.map fun (f : Nat) => (f : Int)
def backF (ws : List Int) (sh d : Nat) (fs : List Nat) : List Int := backGo ws sh d [] (fs.map unfoldI)
theorem folds_len (ws : List Int) (sh d : Nat) (row : List Int) : (foldsF ws sh d row).length = row.length := by
  unfold foldsF
  rw [List.length_map, restsF_go, rests_len]
theorem folds_lt (ws : List Int) (sh : Nat) {d : Nat} (row : List Int) (h : 1 ≤ d) : ∀ f ∈ foldsF ws sh d row, f < 2 ^ d := fun f hf => by
  unfold foldsF at hf
  obtain ⟨n, hn, rfl⟩ := List.mem_map.mp hf
  rw [restsF_go] at hn
  have := rests_samples ws sh d row [] n hn
  exact fold_lt h this.1 this.2
theorem unfolds_samples {d : Nat} {fs : List Nat} (h : 1 ≤ d) (hf : ∀ f ∈ fs, f < 2 ^ d) : Samples d (fs.map unfoldI) := fun n hn => by
  obtain ⟨f, hm, rfl⟩ := List.mem_map.mp hn
  exact unfold_bound h (hf f hm)
theorem back_folds (ws : List Int) (sh d : Nat) {row : List Int} (hs : Samples d row) : backF ws sh d (foldsF ws sh d row) = row := by
  unfold backF foldsF
  rw [List.map_map]
  have e : (unfoldI ∘ foldN) = id := funext unfold_fold
  rw [e, List.map_id, restsF_go, back_rests ws sh d row [] hs]
theorem folds_back (ws : List Int) (sh : Nat) {d : Nat} {fs : List Nat} (h : 1 ≤ d) (hf : ∀ f ∈ fs, f < 2 ^ d) : foldsF ws sh d (backF ws sh d fs) = fs := by
  unfold backF foldsF
  rw [restsF_go, rests_back ws sh d _ [] (unfolds_samples h hf), List.map_map]
  have e : (foldN ∘ unfoldI) = id := funext fold_unfold
  rw [e, List.map_id]
theorem backF_len (ws : List Int) (sh d : Nat) (fs : List Nat) : (backF ws sh d fs).length = fs.length := by
  unfold backF
  rw [back_len, List.length_map]
theorem backF_samples (ws : List Int) (sh d : Nat) (fs : List Nat) : Samples d (backF ws sh d fs) := back_samples ws sh d _ []
theorem cast_lt : ∀ {xs ys : List Nat}, intsN xs < intsN ys ↔ xs < ys
  | [], [] => by simp [intsN]
  | [], y :: ys => by simp [intsN]
  | x :: xs, [] => by simp [intsN]
  | x :: xs, y :: ys => by
    have ih := cast_lt (xs := xs) (ys := ys)
    show (x : Int) :: intsN xs < (y : Int) :: intsN ys ↔ _
    rw [List.cons_lt_cons_iff, List.cons_lt_cons_iff, ih, Int.ofNat_lt, Int.ofNat_inj]
theorem cast_le {xs ys : List Nat} : intsN xs ≤ intsN ys ↔ xs ≤ ys := by
  rw [← List.not_lt, ← List.not_lt, cast_lt]
theorem intsN_inj : ∀ {xs ys : List Nat}, intsN xs = intsN ys → xs = ys
  | [], [], _ => rfl
  | [], y :: ys, h => by simp [intsN] at h
  | x :: xs, [], h => by simp [intsN] at h
  | x :: xs, y :: ys, h => by
    have h' : (x : Int) :: intsN xs = (y : Int) :: intsN ys := h
    injection h' with h1 h2
    rw [intsN_inj h2, Int.ofNat.inj h1]
/-- rising numbers, all below a bound -/
theorem rising_all : ∀ (xs : List Nat) (a c : Nat), xs.Pairwise (· < ·) → (∀ n, n ∈ xs ↔ a ≤ n ∧ n < c) → a ≤ c → xs.length = c - a ∧ ∀ k x, xs[k]? = some x → x = a + k
  | [], a, c, _, h, hac => by
    refine ⟨?_, fun k x hk => by simp at hk⟩
    by_cases e : a < c
    · exact absurd ((h a).mpr ⟨Nat.le_refl _, e⟩) (by simp)
    · show 0 = c - a
      omega
  | x :: xs, a, c, hp, h, hac => by
    have hx := (h x).mp List.mem_cons_self
    obtain ⟨hp1, hp2⟩ := List.pairwise_cons.mp hp
    have ex : x = a := by
      rcases List.mem_cons.mp ((h a).mpr ⟨Nat.le_refl _, by omega⟩) with e | e
      · exact e.symm
      · have := hp1 a e
        omega
    subst ex
    obtain ⟨h1, h2⟩ := rising_all xs (x + 1) c hp2 (fun n => by
      constructor
      · intro hn
        have := hp1 n hn
        have := (h n).mp (List.mem_cons_of_mem _ hn)
        omega
      · intro hn
        rcases List.mem_cons.mp ((h n).mpr ⟨by omega, hn.2⟩) with e | e
        · omega
        · exact e) (by omega)
    refine ⟨by rw [List.length_cons, h1]; omega, fun k y hk => ?_⟩
    cases k with
    | zero => exact (Option.some.inj hk).symm
    | succ k =>
      have := h2 k y (by simpa using hk)
      omega
def sizeN (w : Nat) (fs : List Nat) : Nat := totF w fs + fs.length * (w + 1)
theorem width_split {d w : Nat} (h : w ≤ d) : 2 ^ d = 2 ^ (d - w) * 2 ^ w := by rw [← Nat.pow_add, Nat.sub_add_cancel h]
/-- the rows of a total, in the order of their folds: each at its number -/
theorem sorted_at {ws : List Int} {sh d w m t : Nat} (hd : 1 ≤ d) (hw : w ≤ d) {qs : List (List Int)} (hq : qs.Perm ((allRows d m).filter fun r => decide (totF w (foldsF ws sh d r) = t))) (hs : qs.Pairwise fun x y => intsN (foldsF ws sh d x) ≤ intsN (foldsF ws sh d y)) :
    qs.length = cntF w (2 ^ (d - w)) m t ∧ ∀ k row, qs[k]? = some row → row.length = m ∧ Samples d row ∧ totF w (foldsF ws sh d row) = t ∧ numF w (2 ^ (d - w)) (foldsF ws sh d row) = k := by
  have hmem : ∀ r, r ∈ qs ↔ (r.length = m ∧ Samples d r) ∧ totF w (foldsF ws sh d r) = t := fun r => by
    rw [hq.mem_iff, List.mem_filter, mem_rows, decide_eq_true_eq]
  have hlt : ∀ r, ∀ f ∈ foldsF ws sh d r, f < 2 ^ (d - w) * 2 ^ w := fun r f hf => by
    rw [← width_split hw]
    exact folds_lt ws sh r hd f hf
  have hnd : qs.Nodup := hq.nodup_iff.mpr (List.Nodup.sublist List.filter_sublist (rows_nodup d m))
  have hinj : ∀ r ∈ qs, ∀ r' ∈ qs, foldsF ws sh d r = foldsF ws sh d r' → r = r' := fun r h r' h' e => by
    rw [← back_folds ws sh d ((hmem r).mp h).1.2, e, back_folds ws sh d ((hmem r').mp h').1.2]
  have hp : (qs.map fun r => numF w (2 ^ (d - w)) (foldsF ws sh d r)).Pairwise (· < ·) := by
    rw [List.pairwise_map]
    have hb : qs.Pairwise fun x y => intsN (foldsF ws sh d x) ≤ intsN (foldsF ws sh d y) ∧ x ≠ y := hs.and hnd
    refine List.Pairwise.imp_of_mem (fun {a b} ha hb' h => ?_) hb
    obtain ⟨⟨a1, a2⟩, a3⟩ := (hmem a).mp ha
    obtain ⟨⟨b1, b2⟩, b3⟩ := (hmem b).mp hb'
    refine num_mono (by rw [folds_len, folds_len, a1, b1]) (by rw [a3, b3]) (hlt a) (hlt b) ?_
    rcases lists_tri (foldsF ws sh d a) (foldsF ws sh d b) with c | c | c
    · exact c
    · exact absurd (hinj a ha b hb' c) h.2
    · exact absurd c (List.not_lt.mpr (cast_le.mp h.1))
  obtain ⟨h1, h2⟩ := rising_all _ 0 (cntF w (2 ^ (d - w)) m t) hp (fun n => by
    constructor
    · intro hn
      obtain ⟨r, hr, rfl⟩ := List.mem_map.mp hn
      obtain ⟨⟨a1, a2⟩, a3⟩ := (hmem r).mp hr
      have := num_lt (hlt r)
      rw [folds_len, a1, a3] at this
      exact ⟨Nat.zero_le _, this⟩
    · rintro ⟨_, hn⟩
      obtain ⟨fs, f1, f2, f3, f4⟩ := of_num m t n hn
      rw [← width_split hw] at f3
      refine List.mem_map.mpr ⟨backF ws sh d fs, (hmem _).mpr ⟨⟨by rw [backF_len, f1], backF_samples ws sh d fs⟩, ?_⟩, ?_⟩
      · rw [folds_back ws sh hd f3, f2]
      · rw [folds_back ws sh hd f3, f4]) (Nat.zero_le _)
  rw [List.length_map, Nat.sub_zero] at h1
  refine ⟨h1, fun k row hk => ?_⟩
  obtain ⟨⟨a1, a2⟩, a3⟩ := (hmem row).mp (List.mem_of_getElem? hk)
  refine ⟨a1, a2, a3, ?_⟩
  have := h2 k _ (by rw [List.getElem?_map, hk]; rfl)
  exact (show numF w (2 ^ (d - w)) (foldsF ws sh d row) = 0 + k from this).trans (Nat.zero_add k)
theorem tot_le {w b : Nat} : ∀ {fs : List Nat}, (∀ f ∈ fs, f < b * 2 ^ w) → totF w fs ≤ fs.length * (b - 1)
  | [], _ => Nat.zero_le _
  | f :: fs, h => by
    have ih := tot_le (fs := fs) fun g hg => h g (List.mem_cons_of_mem _ hg)
    have hs : f / 2 ^ w < b := (Nat.div_lt_iff_lt_mul (Nat.two_pow_pos w)).mpr (h f List.mem_cons_self)
    rw [tot_cons, List.length_cons, Nat.succ_mul]
    omega
end My

namespace My
open PySem PySem.Spec PyProof.Rows L2 Pre
/-! ### checks, counts, folds -/
theorem map_set (l : List Int) (k : Nat) (v : Int) : (l.map V.int).set k (.int v) = (l.set k v).map V.int := by rw [List.map_set]
theorem at_ints {l : List Int} {k : Nat} (h : k < l.length) : atI (l.map V.int) (k : Int) = some (.int (l.getD k 0)) := by
  refine at_of (j := k) (by omega) ?_
  rw [List.getElem?_map, List.getElem?_eq_getElem h, getD_of h]
  rfl
theorem ix_ints {l : List Int} {k : Nat} (h : k < l.length) : ixN (l.map V.int).length (k : Int) = some k := by
  rw [List.length_map]
  unfold ixN
  rw [if_pos (by omega), Int.toNat_natCast, if_pos (by omega)]
theorem back_at (ws : List Int) (sh d : Nat) : ∀ (rs pre : List Int) (k : Nat), k < rs.length → (backGo ws sh d pre rs).getD k 0 = wrapI (rs.getD k 0 + told0 ws sh (pre ++ (backGo ws sh d pre rs).take k)) d
  | [], _, k, h => absurd h (by simp)
  | r :: rs, pre, 0, _ => by
    show wrapI (r + told0 ws sh pre) d = wrapI (r + told0 ws sh (pre ++ [])) d
    rw [List.append_nil]
  | r :: rs, pre, k + 1, h => by
    have ih := back_at ws sh d rs (pre ++ [wrapI (r + told0 ws sh pre) d]) k (by simpa using h)
    show (backGo ws sh d _ rs).getD k 0 = wrapI (rs.getD k 0 + told0 ws sh (pre ++ (wrapI (r + told0 ws sh pre) d :: (backGo ws sh d _ rs).take k))) d
    rw [ih, List.append_assoc]
    rfl
theorem back_firsts (ws : List Int) (sh d : Nat) (rs : List Int) (hs : Samples d rs) : ∀ k, k ≤ ws.length → (backGo ws sh d [] rs).take k = rs.take k
  | 0, _ => rfl
  | k + 1, h => by
    have hb := back_len ws sh d rs []
    by_cases hk : k < rs.length
    · have e := back_at ws sh d rs [] k hk
      rw [List.nil_append] at e
      have e0 : told0 ws sh ((backGo ws sh d [] rs).take k) = 0 := by
        unfold told0
        rw [if_pos (by rw [List.length_take]; omega)]
      have hm := hs _ (List.getElem_mem hk)
      rw [e0, Int.add_zero, getD_of hk, wrap_id hm.1 hm.2] at e
      rw [List.take_add_one, List.take_add_one, back_firsts ws sh d rs hs k (by omega), List.getElem?_eq_getElem hk, List.getElem?_eq_getElem (by omega), ← getD_of (by omega), e]
    · rw [List.take_of_length_le (by omega), List.take_of_length_le (by omega)]
      have := back_firsts ws sh d rs hs k (by omega)
      rw [List.take_of_length_le (by omega), List.take_of_length_le (by omega)] at this
      exact this
section
variable {P : Program} {w : World} {K : PySem.W.Frag} {mg : Str → Option Value} {base : Heap} [pf : Sup.PF P fileS]
def sp_check_number (C : Addr) : Sp := fun vs H Q E => ∃ (i lo : Int) (hi : Option Int), vs = [.int i, .int lo, (match hi with | some j => .int j | none => .non)] ∧ (((lo ≤ i ∧ ∀ j, hi = some j → i ≤ j) ∧ Q .non H) ∨ (¬ (lo ≤ i ∧ ∀ j, hi = some j → i ≤ j) ∧ ∀ d, H d = none → E (.ref C) (some d) (upd H d (.xd [("value", .int i)]))))
theorem G_check_number (T : Top K mg) : FnOk P w K mg base (L2.CX P w) 3 T.f_check_number T.fd_check_number ["number", "low", "high"] (sp_check_number T.C_InvalidNumber) := by
  refine T.F_check_number.ok (CX := L2.CX P w) sc_check_number (fun vs H Q E h => by obtain ⟨i, lo, hi, rfl, _⟩ := h; rfl) (fun cdv A outer s H vs Q E hr h => ?_)
  obtain ⟨i, lo, hi, rfl, h⟩ := h
  refine ⟨_, (pss_one (ps_if (pt_not (pt_val (pe_call (G_is_between (P := P) T) (hr.mono (by decide)) (by rfl) T.g_is_between T.F_is_between.kp T.b_is_between .nil pass0 (pa_cons (pv 0) (pa_cons (pv 1) (pa_cons (pv 2) pa_nil))))))
    (pss_one (ps_raise rfl (takes_of rfl rfl rfl rfl) (pmk_oex T.er_InvalidNumber.sup.T T.er_InvalidNumber.ini T.er_InvalidNumber.ity (G_InvalidNumber___init__ (P := P) (CX := CX0) T) (hr.mono (by decide)) T.er_InvalidNumber.bnd .nil pass0 (by rfl) T.gc_InvalidNumber (pa_cons (pv 0) pa_nil))))
    pss_nil)), ?_⟩
  refine ⟨_, rfl, _, rfl, _, rfl, i, lo, hi, rfl, _, rfl, ?_⟩
  rcases h with ⟨h, q⟩ | ⟨h, q⟩
  · rw [decide_eq_true h]
    exact iteF q
  · rw [decide_eq_false h]
    exact iteT ⟨_, rfl, mk_sup fun d nd => q d nd⟩
def sp_check_width : Sp := fun vs H Q _ => ∃ i d : Int, vs = [.int i, .int d] ∧ 0 ≤ i ∧ i ≤ d ∧ Q .non H
theorem G_check_width (T : Top K mg) : FnOk P w K mg base CX0 3 T.f_check_width T.fd_check_width ["width", "depth"] sp_check_width := by
  refine T.F_check_width.ok sc_check_width (fun vs H Q E h => by obtain ⟨i, d, rfl, _⟩ := h; rfl) (fun cdv A outer s H vs Q E hr h => ?_)
  obtain ⟨i, d, rfl, h0, h1, q⟩ := h
  refine ⟨_, PSs.nox (pss_one (ps_if (pt_not (pt_val (pe_call (G_is_between (P := P) T) (hr.mono (by decide)) (by rfl) T.g_is_between T.F_is_between.kp T.b_is_between .nil pass0 (pa_cons (pv 0) (pa_cons pe_int (pa_cons (pv 1) pa_nil))))))
    (pss_one ps_never)
    pss_nil)), ?_⟩
  refine ⟨_, rfl, _, rfl, i, 0, some d, rfl, _, rfl, ?_⟩
  rw [decide_eq_true ⟨h0, fun j h => by cases h; exact h1⟩]
  exact iteF q
def sp_chosen : Sp := fun vs H Q _ => ∃ m f : Nat, vs = [.int m, .int f] ∧ m ≤ 10 ^ 9 ∧ Q (.int (chosenN m f : Nat)) H
theorem G_chosen (T : Top K mg) : FnOk P w K mg base CX0 1 T.f_chosen T.fd_chosen ["many", "few"] sp_chosen := by
  refine T.F_chosen.ok sc_chosen (fun vs H Q E h => by obtain ⟨m, f, rfl, _⟩ := h; rfl) (fun cdv A outer s H vs Q E hr h => ?_)
  obtain ⟨m, f, rfl, hm, q⟩ := h
  refine ⟨_, PSs.nox (pss_cons (ps_if (pt_cmpR op_gt (pv 1) (pv 0) (nomark _))
    (pss_one (ps_ret pe_int))
    pss_nil)
  (pss_cons (ps_set (i := 2) sc_chosen.nd rfl (by first | exact Or.inl rfl | exact Or.inr rfl) pe_int)
  (pss_cons (ps_for PassesOwn.never rfl (pi_range1 (by rfl) T.n_range (pa_cons (pv 1) pa_nil)) (pg_name (i := 3) sc_chosen.nd rfl (by first | exact Or.inl rfl | exact Or.inr rfl))
    (pss_one (ps_set (i := 2) sc_chosen.nd rfl (by first | exact Or.inl rfl | exact Or.inr rfl) (pe_op op_fdivW (pe_op op_mul (pv 2) (pe_op op_sub (pv 0) (pv 3))) (pe_op op_add (pv 3) pe_int)))))
  (pss_one (ps_ret (pv 2)))))), ?_⟩
  unfold chosenN at q
  refine ⟨_, rfl, _, rfl, _, _, rfl, rfl, _, rfl, ite2 (fun e => ?_) (fun e => ?_)⟩
  · have e1 : (f : Int) > (m : Int) := of_decide_eq_true e
    rw [if_pos (by omega)] at q
    exact q
  · have e1 : ¬ (f : Int) > (m : Int) := fun h => e (decide_eq_true h)
    rw [if_neg (by omega)] at q
    refine ⟨_, rfl, _, rfl, by omega, by omega, ?_⟩
    rw [Int.toNat_natCast]
    refine for_range (lo := 0) (n := f) (fun i σ H1 => ∃ v, σ = [some (.int m), some (.int f), some (.int (choN m i : Nat)), v] ∧ H1 = H) ⟨none, rfl, rfl⟩ ?_ ?_
    · rintro i σ H1 hi ⟨v, rfl, rfl⟩
      refine ⟨_, rfl, _, rfl, _, rfl, _, _, rfl, rfl, _, _, rfl, rfl, .inr ⟨by omega, by omega⟩, _, rfl, _, _, rfl, rfl, _, _, rfl, rfl, wide_div (b := 60) (by omega) (by omega) (by decide) (by decide), ?_⟩
      refine ⟨some (.int (0 + (i : Int))), ?_, rfl⟩
      have e2 : ((choN m i : Nat) : Int) * ((m : Int) - (0 + (i : Int))) / (0 + (i : Int) + 1) = ((choN m (i + 1) : Nat) : Int) := by
        show _ = ((choN m i * (m - i) / (i + 1) : Nat) : Int)
        rw [Int.natCast_ediv, Int.natCast_mul, Int.zero_add, show ((m - i : Nat) : Int) = (m : Int) - (i : Int) by omega]
        rfl
      show [some (V.int (m : Int)), some (.int f), some (.int (((choN m i : Nat) : Int) * ((m : Int) - (0 + (i : Int))) / (0 + (i : Int) + 1))), some (.int (0 + (i : Int)))] = _
      rw [e2]
    · rintro σ H1 ⟨v, rfl, rfl⟩
      exact ⟨_, rfl, q⟩
def sp_sums_below : Sp := fun vs H Q _ => ∃ (m b : Nat) (t : Int), vs = [.int m, .int b, .int t] ∧ m ≤ 1000 ∧ 1 ≤ b ∧ b ≤ 2 ^ 40 ∧ t ≤ 10 ^ 6 ∧ Mild m b t ∧ Q (.int (sumsF m b t)) H
theorem min_if (a b : Int) : (if b < a then b else a) = min a b := by omega
theorem G_sums_below (T : Top K mg) : FnOk P w K mg base CX0 2 T.f_sums_below T.fd_sums_below ["many", "bound", "total"] sp_sums_below := by
  refine T.F_sums_below.ok sc_sums_below (fun vs H Q E h => by obtain ⟨m, b, t, rfl, _⟩ := h; rfl) (fun cdv A outer s H vs Q E hr h => ?_)
  obtain ⟨m, b, t, rfl, hm, hb, hb2, ht, hM, q⟩ := h
  refine ⟨_, PSs.nox (pss_cons (ps_if (PW.pt (pw_or (pt_cmpR op_eq (pv 0) pe_int (nomark _)) (pw_or1 (pt_cmpR op_lt (pv 2) pe_int (nomark _)))))
    (pss_one (ps_ret (pe_callTy call_int1 (by rfl) T.n_int (by decide +kernel) (pa_cons (pe_and (pe_cmpR op_eq (pv 0) pe_int (nomark _)) (pe_one (pe_cmpR op_eq (pv 2) pe_int (nomark _)))) pa_nil))))
    pss_nil)
  (pss_cons (ps_set (i := 3) sc_sums_below.nd rfl (by first | exact Or.inl rfl | exact Or.inr rfl) pe_int)
  (pss_cons (ps_for PassesOwn.never rfl (pi_range1 (by rfl) T.n_range (pa_cons (pe_op op_add (pe_callB (call_min2 rfl) (by rfl) T.n_min (by decide +kernel) (pa_cons (pv 0) (pa_cons (pe_op op_fdivW (pv 2) (pv 1)) pa_nil))) pe_int) pa_nil)) (pg_name (i := 4) sc_sums_below.nd rfl (by first | exact Or.inl rfl | exact Or.inr rfl))
    (pss_cons (ps_set (i := 5) sc_sums_below.nd rfl (by first | exact Or.inl rfl | exact Or.inr rfl) (pe_op op_mul (pe_call (G_chosen (P := P) T) (hr.mono (by decide)) (by rfl) T.g_chosen T.F_chosen.kp T.b_chosen .nil pass0 (pa_cons (pv 0) (pa_cons (pv 4) pa_nil))) (pe_call (G_chosen (P := P) T) (hr.mono (by decide)) (by rfl) T.g_chosen T.F_chosen.kp T.b_chosen .nil pass0 (pa_cons (pe_op op_sub (pe_op op_add (pe_op op_sub (pv 2) (pe_op op_mul (pv 4) (pv 1))) (pv 0)) pe_int) (pa_cons (pe_op op_sub (pv 0) pe_int) pa_nil)))))
  (pss_one (ps_set (i := 3) sc_sums_below.nd rfl (by first | exact Or.inl rfl | exact Or.inr rfl) (pe_op op_add (pv 3) (pe_ifExp (pt_cmpR op_eq (pe_op op_mod (pv 4) pe_int) pe_int (nomark _)) (pv 5) (pe_op op_sub pe_int (pv 5))))))))
  (pss_one (ps_ret (pv 3)))))), ?_⟩
  unfold sumsF at q
  refine ⟨_, rfl, rfl, _, rfl, ?_⟩
  by_cases h0 : m = 0 ∨ t < 0
  · rw [if_pos h0] at q
    have fin : ∀ c, c = decide (m = 0 ∧ t = 0) → Q (.int (if c = true then 1 else 0)) H := fun c hc => by
      subst hc
      by_cases h : m = 0 ∧ t = 0
      · rw [if_pos h] at q
        rw [decide_eq_true h]
        exact q
      · rw [if_neg h] at q
        rw [decide_eq_false h]
        exact q
    have body : ∀ σ, σ = [some (V.int (m : Int)), some (.int b), some (.int t), none, none, none] → (tRet (tCB (fun xs H Q => (∃ i, xs = [.int i] ∧ Q (.int i) H) ∨ ∃ k, xs = [.bl k] ∧ Q (.int (if k then 1 else 0)) H) (tCons (tAndV (tOp rEq (tVar 0) (tC (.int 0))) (tOp rEq (tVar 2) (tC (.int 0)))) tNil))) { nx := fun _ H' => Q .non H', rt := Q } σ H := by
      rintro σ rfl
      refine ⟨_, rfl, rfl, _, rfl, ?_⟩
      by_cases hm0 : m = 0
      · rw [decide_eq_true (show V.int (m : Int) = V.int 0 by rw [hm0]; rfl)]
        refine iteT ⟨_, rfl, rfl, .inr ⟨_, rfl, ?_⟩⟩
        refine fin _ ?_
        by_cases ht0 : t = 0
        · rw [decide_eq_true (by rw [ht0]), decide_eq_true ⟨hm0, ht0⟩]
        · rw [decide_eq_false (fun z => ht0 (V.int.inj z)), decide_eq_false (fun z => ht0 z.2)]
      · rw [decide_eq_false (fun z => hm0 (by have := V.int.inj z; omega))]
        refine iteF (.inr ⟨_, rfl, ?_⟩)
        refine fin _ ?_
        rw [decide_eq_false (fun z => hm0 z.1)]
    by_cases hm0 : m = 0
    · rw [decide_eq_true (show V.int (m : Int) = V.int 0 by rw [hm0]; rfl)]
      exact iteT (body _ rfl)
    · rw [decide_eq_false (fun z => hm0 (by have := V.int.inj z; omega))]
      refine iteF ⟨_, rfl, _, _, rfl, rfl, _, rfl, ?_⟩
      rw [decide_eq_true (show t < 0 by omega)]
      exact iteT (body _ rfl)
  · rw [if_neg h0] at q
    rw [decide_eq_false (fun z => h0 (.inl (by have := V.int.inj z; omega)))]
    refine iteF ⟨_, rfl, _, _, rfl, rfl, _, rfl, ?_⟩
    rw [decide_eq_false (show ¬ t < 0 by omega)]
    refine iteF ?_
    obtain ⟨e, rfl⟩ : ∃ e : Nat, t = (e : Int) := ⟨t.toNat, by omega⟩
    rw [Int.toNat_natCast] at q
    obtain ⟨hM1, _⟩ := hM
    rw [Int.toNat_natCast] at hM1
    have hdiv : (e : Int) / (b : Int) = ((e / b : Nat) : Int) := (Int.natCast_ediv e b).symm
    have hq : e / b ≤ e := Nat.div_le_self _ _
    have hqb : e / b * b ≤ e := Nat.div_mul_le_self e b
    generalize e / b = qq at q hM1 hdiv hq hqb
    refine ⟨_, rfl, _, rfl, _, rfl, _, _, rfl, rfl, wide_div (b := 60) (by omega) (by omega) (by decide) (by decide), _, _, rfl, ?_⟩
    rw [min_if, hdiv]
    refine ⟨_, _, rfl, rfl, _, rfl, by omega, by omega, ?_⟩
    have en : (min (m : Int) (qq : Int) + 1).toNat = min m qq + 1 := by omega
    rw [en]
    refine for_range (lo := 0) (n := min m qq + 1) (fun i σ H1 => ∃ v4 v5, σ = [some (.int m), some (.int b), some (.int e), some (.int (sumTo m b e i)), v4, v5] ∧ H1 = H) ⟨none, none, rfl, rfl⟩ ?_ ?_
    · rintro i σ H1 hi ⟨v4, v5, rfl, rfl⟩
      have hib : i * b ≤ e := Nat.le_trans (Nat.mul_le_mul_right b (show i ≤ qq by omega)) hqb
      have hc := hM1 i (by omega)
      refine ⟨_, rfl, _, rfl, m, i, ?_, by omega, ?_⟩
      · show [V.int (m : Int), V.int (0 + (i : Int))] = _
        rw [Int.zero_add]
      refine ⟨_, rfl, _, rfl, _, rfl, _, _, rfl, rfl, .inl ⟨by omega, by omega⟩, _, _, rfl, rfl, _, rfl, _, _, rfl, rfl, _, _, rfl, rfl, _, rfl, _, _, rfl, rfl, e - i * b + m - 1, m - 1, ?_, by omega, ?_⟩
      · have e1 : (e : Int) - (0 + (i : Int)) * (b : Int) + (m : Int) - 1 = ((e - i * b + m - 1 : Nat) : Int) := by
          have e3 : ((i * b : Nat) : Int) = (i : Int) * (b : Int) := Int.natCast_mul i b
          rw [Int.zero_add, ← e3]
          omega
        have e2 : (m : Int) - 1 = ((m - 1 : Nat) : Int) := by omega
        show [V.int ((e : Int) - (0 + (i : Int)) * (b : Int) + (m : Int) - 1), V.int ((m : Int) - 1)] = _
        rw [e1, e2]
      refine ⟨_, _, rfl, rfl, .inl ⟨by omega, by omega⟩, ?_⟩
      have ep : ((chosenN m i : Nat) : Int) * ((chosenN (e - i * b + m - 1) (m - 1) : Nat) : Int) = ((partN m b e i : Nat) : Int) := (Int.natCast_mul _ _).symm
      dsimp only
      rw [ep]
      refine ⟨_, rfl, _, rfl, _, _, rfl, rfl, (by show (0 : Int) < 2; decide), rfl, _, rfl, ?_⟩
      have em : ((0 + (i : Int)) % 2 = 0) ↔ i % 2 = 0 := by omega
      by_cases hpar : i % 2 = 0
      · rw [decide_eq_true (congrArg V.int (em.mpr hpar))]
        refine iteT ⟨_, rfl, _, _, rfl, rfl, some (.int (0 + (i : Int))), some (.int (partN m b e i : Nat)), ?_, rfl⟩
        show _ = [some (V.int (m : Int)), some (.int b), some (.int e), some (.int (sumTo m b e i + (if i % 2 = 0 then (partN m b e i : Int) else 0 - (partN m b e i : Int)))), _, _]
        rw [if_pos hpar]
        rfl
      · rw [decide_eq_false (fun z => hpar (em.mp (V.int.inj z)))]
        refine iteF ⟨_, rfl, _, _, rfl, rfl, _, _, rfl, rfl, some (.int (0 + (i : Int))), some (.int (partN m b e i : Nat)), ?_, rfl⟩
        show _ = [some (V.int (m : Int)), some (.int b), some (.int e), some (.int (sumTo m b e i + (if i % 2 = 0 then (partN m b e i : Int) else 0 - (partN m b e i : Int)))), _, _]
        rw [if_neg hpar]
        rfl
    · rintro σ H1 ⟨v4, v5, rfl, rfl⟩
      exact ⟨_, rfl, q⟩
theorem sub_toNat {d i : Nat} (h : i ≤ d) : ((d : Int) - (i : Int)).toNat = d - i := by omega
theorem one_shl {k : Nat} {d : Nat} (h : d = k) : ((1 : Int) * 2 ^ d) = ((2 ^ k : Nat) : Int) := by rw [h, Int.one_mul, Int.natCast_pow]; rfl
theorem pow_le8 {k : Nat} (h : k < 4) : 2 ^ k ≤ 8 := Nat.le_trans (Nat.pow_le_pow_right (by decide) (show k ≤ 3 by omega)) (by decide)
/-- a total is not great -/
theorem tot_bound {m r t : Nat} (hr : r < 4) (hm : m < 14) (ht : t ≤ m * (2 ^ r - 1)) : t ≤ 91 := by
  have h8 := pow_le8 hr
  have : m * (2 ^ r - 1) ≤ 13 * 7 := Nat.mul_le_mul (by omega) (by omega)
  omega
theorem shl1 {j : Int} (h0 : 0 ≤ j) (h1 : j ≤ 10 ^ 6) : CShl 1 j := ⟨h0, by
    have e : Builtin.Int.intBits 1 = 1 := by decide
    rw [e]
    have : (1 : Int) + j ≤ 1 + 10 ^ 6 := by omega
    exact Int.le_trans this (by decide)⟩
theorem abs_of {x : Int} {k : Nat} (h0 : 0 ≤ x) (h : x < 2 ^ k) : x.natAbs < 2 ^ k := by
  have e : ((2 ^ k : Nat) : Int) = 2 ^ k := by rw [Int.natCast_pow]; rfl
  omega
theorem abs_nat {n k : Nat} (h : n < 2 ^ k) : ((n : Nat) : Int).natAbs < 2 ^ k := h
theorem mulN {a b x y : Nat} (h1 : a < 2 ^ x) (h2 : b < 2 ^ y) (h : x + y ≤ 10000) : CMulX ((a : Nat) : Int) ((b : Nat) : Int) := mulx_ok (abs_nat h1) (abs_nat h2) (by omega)
def sp_how_many : Sp := fun vs H Q _ => ∃ (d i m t : Nat) (s : Int), vs = [.int d, .int i, .int m, .int s] ∧ s = (t : Int) + (m : Int) * ((i : Int) + 1) ∧ 1 ≤ d ∧ d ≤ 24 ∧ i ≤ d ∧ d - i < 4 ∧ m < 14 ∧ t ≤ m * (2 ^ (d - i) - 1) ∧ Q (.int (cntF i (2 ^ (d - i)) m t : Nat)) H
theorem G_how_many (T : Top K mg) : FnOk P w K mg base CX0 4 T.f_how_many T.fd_how_many ["depth", "width", "many", "size"] sp_how_many := by
  refine T.F_how_many.ok sc_how_many (fun vs H Q E h => by obtain ⟨d, i, m, t, z, rfl, _⟩ := h; rfl) (fun cdv A outer s H vs Q E hr h => ?_)
  obtain ⟨d, i, m, t, z, rfl, hz, h0, h1, h2, hr4, hm, ht, q⟩ := h
  refine ⟨_, PSs.nox (pss_cons (ps_expr (pe_call (G_check_depth (P := P) T) (hr.mono (by decide)) (by rfl) T.g_check_depth T.F_check_depth.kp T.b0_check_depth T.v0_check_depth pass0 (pa_cons (pv 0) pa_nil)))
  (pss_cons (ps_expr (pe_call (G_check_width (P := P) T) (hr.mono (by decide)) (by rfl) T.g_check_width T.F_check_width.kp T.b_check_width .nil pass0 (pa_cons (pv 1) (pa_cons (pv 0) pa_nil))))
  (pss_cons (ps_expr (pe_call (G_check_number (P := P) T) (hr.mono (by decide)) (by rfl) T.g_check_number T.F_check_number.kp T.b_check_number .nil passL (pa_cons (pv 2) (pa_cons pe_int (pa_cons (pe_glob (v := .int 200) rfl T.m_MOST_MANY ⟨_, rfl⟩) pa_nil)))))
  (pss_cons (ps_expr (pe_call (G_check_number (P := P) T) (hr.mono (by decide)) (by rfl) T.g_check_number T.F_check_number.kp T.b_check_number .nil passL (pa_cons (pv 3) (pa_cons pe_int (pa_cons pe_non pa_nil)))))
  (pss_cons (ps_set (i := 4) sc_how_many.nd rfl (by first | exact Or.inl rfl | exact Or.inr rfl) (pe_op op_sub (pv 3) (pe_op op_mulX (pv 2) (pe_op op_add (pv 1) pe_int))))
  (pss_one (ps_ret (pe_op op_mulX (pe_call (G_sums_below (P := P) T) (hr.mono (by decide)) (by rfl) T.g_sums_below T.F_sums_below.kp T.b_sums_below .nil pass0 (pa_cons (pv 2) (pa_cons (pe_op op_shlW pe_int (pe_op op_sub (pv 0) (pv 1))) (pa_cons (pv 4) pa_nil)))) (pe_op op_shlW pe_int (pe_op op_mulX (pv 1) (pv 2))))))))))), ?_⟩
  have hp : 2 ^ (d - i) ≤ 8 := pow_le8 hr4
  have hp1 : 0 < 2 ^ (d - i) := Nat.pow_pos (by decide)
  have hmi : (0 : Int) ≤ (m : Int) * ((i : Int) + 1) := Int.mul_nonneg (by omega) (by omega)
  have ht91 := tot_bound hr4 hm ht
  have hmi2 : i * m ≤ 24 * 13 := Nat.mul_le_mul (by omega) (by omega)
  have hmi3 : ((i * m : Nat) : Int) = (i : Int) * (m : Int) := Int.natCast_mul i m
  have hM := mild_tbl hr4 hm ht
  refine ⟨_, rfl, _, _, rfl, by omega, by omega, ?_⟩
  refine ⟨_, rfl, _, rfl, _, _, rfl, by omega, by omega, ?_⟩
  refine ⟨_, rfl, _, 0, some 200, rfl, .inl ⟨⟨by omega, fun j h => by cases h; omega⟩, ?_⟩⟩
  refine ⟨_, rfl, _, 0, none, rfl, .inl ⟨⟨by omega, (fun j h => nomatch h)⟩, ?_⟩⟩
  refine ⟨_, rfl, _, rfl, _, rfl, _, _, rfl, rfl, _, _, rfl, rfl, mulx_ok (a := 30) (b := 30) (abs_of (by omega) (by omega)) (abs_of (by omega) (by omega)) (by decide), _, _, rfl, rfl, ?_⟩
  refine ⟨_, rfl, _, rfl, _, rfl, _, _, rfl, rfl, _, _, rfl, rfl, shl1 (by omega) (by omega), _, rfl, m, 2 ^ (d - i), (t : Int), ?_, by omega, by omega, by omega, by omega, hM, ?_⟩
  · show [V.int (m : Int), V.int (1 * 2 ^ ((d : Int) - (i : Int)).toNat), V.int (z - (m : Int) * ((i : Int) + 1))] = _
    rw [one_shl (sub_toNat h2), show z - (m : Int) * ((i : Int) + 1) = (t : Int) by omega]
  rw [sums_tbl hr4 hm ht]
  have hb := tbl_small hr4 (show m < 14 from hm) (Nat.le_trans ht (Nat.mul_le_mul_right _ (show m ≤ 13 by omega)))
  have e2 : (1 : Int) * 2 ^ ((i : Int) * (m : Int)).toNat = ((2 ^ (i * m) : Nat) : Int) := by rw [← hmi3, Int.toNat_natCast]; exact one_shl rfl
  have h3 : (2 : Nat) ^ (i * m) < 2 ^ 313 := Nat.pow_lt_pow_right (by decide) (by omega)
  refine ⟨_, rfl, _, rfl, _, _, rfl, rfl, mulx_ok (a := 30) (b := 30) (abs_of (by omega) (by omega)) (abs_of (by omega) (by omega)) (by decide), _, _, rfl, rfl, shl1 (by omega) (by omega), _, _, rfl, rfl, ?_, ?_⟩
  · rw [e2]
    exact mulN hb h3 (by decide)
  dsimp only
  rw [e2, ← Int.natCast_mul, Nat.mul_comm]
  exact q
def sp_how_many_checked : Sp := fun vs H Q _ => ∃ (d i m t : Nat) (s n : Int), vs = [.int d, .int i, .int m, .int s, .int n] ∧ s = (t : Int) + (m : Int) * ((i : Int) + 1) ∧ 1 ≤ d ∧ d ≤ 24 ∧ i ≤ d ∧ d - i < 4 ∧ m < 14 ∧ t ≤ m * (2 ^ (d - i) - 1) ∧ 0 ≤ n ∧ Q (.int (cntF i (2 ^ (d - i)) m t : Nat)) H
theorem G_how_many_checked (T : Top K mg) : FnOk P w K mg base CX0 5 T.f_how_many_checked T.fd_how_many_checked ["depth", "width", "many", "size", "number"] sp_how_many_checked := by
  refine T.F_how_many_checked.ok sc_how_many_checked (fun vs H Q E h => by obtain ⟨d, i, m, t, z, n, rfl, _⟩ := h; rfl) (fun cdv A outer s H vs Q E hr h => ?_)
  obtain ⟨d, i, m, t, z, n, rfl, hz, h0, h1, h2, hr4, hm, ht, hn, q⟩ := h
  refine ⟨_, PSs.nox (pss_cons (ps_set (i := 5) sc_how_many_checked.nd rfl (by first | exact Or.inl rfl | exact Or.inr rfl) (pe_call (G_how_many (P := P) T) (hr.mono (by decide)) (by rfl) T.g_how_many T.F_how_many.kp T.b_how_many .nil pass0 (pa_cons (pv 0) (pa_cons (pv 1) (pa_cons (pv 2) (pa_cons (pv 3) pa_nil))))))
  (pss_cons (ps_if (pt_not (pt_val (pe_call (G_is_between (P := P) T) (hr.mono (by decide)) (by rfl) T.g_is_between T.F_is_between.kp T.b_is_between .nil pass0 (pa_cons (pv 4) (pa_cons pe_int (pa_cons pe_non pa_nil))))))
    (pss_one ps_never)
    pss_nil)
  (pss_one (ps_ret (pv 5))))), ?_⟩
  refine ⟨_, rfl, _, rfl, _, rfl, _, rfl, d, i, m, t, z, rfl, hz, h0, h1, h2, hr4, hm, ht, ?_⟩
  refine ⟨_, rfl, n, 0, none, rfl, ?_⟩
  rw [decide_eq_true ⟨hn, fun j h => nomatch h⟩]
  exact ⟨_, rfl, iteF ⟨_, rfl, q⟩⟩
def sp_folded : Sp := fun vs H Q _ => ∃ n : Int, vs = [.int n] ∧ Q (.int (foldN n : Nat)) H
theorem G_folded (T : Top K mg) : FnOk P w K mg base CX0 1 T.f_folded T.fd_folded ["number"] sp_folded := by
  refine T.F_folded.ok sc_folded (fun vs H Q E h => by obtain ⟨n, rfl, _⟩ := h; rfl) (fun cdv A outer s H vs Q E hr h => ?_)
  obtain ⟨n, rfl, q⟩ := h
  refine ⟨_, PSs.nox (pss_one (ps_ret (pe_ifExp (pt_cmpR op_ge (pv 0) pe_int (nomark _)) (pe_op op_mul pe_int (pv 0)) (pe_op op_sub (pe_op op_sub pe_int (pe_op op_mul pe_int (pv 0))) pe_int)))), ?_⟩
  rw [← fold_cast] at q
  unfold foldI at q
  refine ⟨_, rfl, _, _, rfl, rfl, _, rfl, ?_⟩
  by_cases h : n ≥ 0
  · rw [decide_eq_true h]
    rw [if_pos h] at q
    exact iteT ⟨_, rfl, _, _, rfl, rfl, .inl ⟨by decide, by decide⟩, q⟩
  · rw [decide_eq_false h]
    rw [if_neg h] at q
    refine iteF ⟨_, rfl, _, _, rfl, rfl, .inl ⟨by decide, by decide⟩, _, _, rfl, rfl, _, _, rfl, rfl, ?_⟩
    dsimp only
    rw [show (0 : Int) - 2 * n - 1 = -2 * n - 1 by omega]
    exact q
def sp_unfolded : Sp := fun vs H Q _ => ∃ f : Nat, vs = [.int f] ∧ Q (.int (unfoldI f)) H
theorem G_unfolded (T : Top K mg) : FnOk P w K mg base CX0 1 T.f_unfolded T.fd_unfolded ["number"] sp_unfolded := by
  refine T.F_unfolded.ok sc_unfolded (fun vs H Q E h => by obtain ⟨f, rfl, _⟩ := h; rfl) (fun cdv A outer s H vs Q E hr h => ?_)
  obtain ⟨f, rfl, q⟩ := h
  refine ⟨_, PSs.nox (pss_one (ps_ret (pe_ifExp (pt_cmpR op_eq (pe_op op_mod (pv 0) pe_int) pe_int (nomark _)) (pe_op op_fdivW (pv 0) pe_int) (pe_op op_sub pe_int (pe_op op_fdivW (pe_op op_add (pv 0) pe_int) pe_int))))), ?_⟩
  unfold unfoldI at q
  refine ⟨_, rfl, _, _, rfl, rfl, (show (0 : Int) < 2 by decide), rfl, _, rfl, ?_⟩
  have hw : ∀ x : Int, CDivW x 2 := fun x => wide_div (b := 60) (by decide) (by decide) (by decide) (by decide)
  by_cases h : f % 2 = 0
  · rw [decide_eq_true (congrArg V.int (show (f : Int) % 2 = 0 by omega))]
    rw [if_pos h] at q
    refine iteT ⟨_, rfl, _, _, rfl, rfl, hw _, ?_⟩
    dsimp only
    rw [show (f : Int) / 2 = ((f / 2 : Nat) : Int) by omega]
    exact q
  · rw [decide_eq_false (fun z => h (by have := V.int.inj z; omega))]
    rw [if_neg h] at q
    refine iteF ⟨_, rfl, _, _, rfl, rfl, _, _, rfl, rfl, hw _, _, _, rfl, rfl, ?_⟩
    dsimp only
    rw [show ((f : Int) + 1) / 2 = (((f + 1) / 2 : Nat) : Int) by omega]
    exact q
def sp_law_folded : Sp := fun vs H Q _ => ∃ n : Int, vs = [.int n] ∧ Q (.int (foldN n : Nat)) H
theorem G_law_folded (T : Top K mg) : FnOk P w K mg base CX0 1 T.f_law_folded T.fd_law_folded ["_law_number"] sp_law_folded := by
  refine T.F_law_folded.ok sc_law_folded (fun vs H Q E h => by obtain ⟨n, rfl, _⟩ := h; rfl) (fun cdv A outer s H vs Q E hr h => ?_)
  obtain ⟨n, rfl, q⟩ := h
  refine ⟨_, PSs.nox (pss_one (ps_ret (pe_ifExp (pt_cmpR op_ge (pv 0) pe_int (nomark _)) (pe_op op_mul pe_int (pv 0)) (pe_op op_sub (pe_op op_mul (pe_un un_neg pe_int) (pv 0)) pe_int)))), ?_⟩
  rw [← fold_cast] at q
  unfold foldI at q
  refine ⟨_, rfl, _, _, rfl, rfl, _, rfl, ?_⟩
  by_cases h : n ≥ 0
  · rw [decide_eq_true h]
    rw [if_pos h] at q
    exact iteT ⟨_, rfl, _, _, rfl, rfl, .inl ⟨by decide, by decide⟩, q⟩
  · rw [decide_eq_false h]
    rw [if_neg h] at q
    exact iteF ⟨_, rfl, _, rfl, _, _, rfl, rfl, .inl ⟨by decide, by decide⟩, _, _, rfl, rfl, q⟩
end
end My

namespace My
open PySem PySem.Spec PyProof.Rows L2 Pre
theorem pow_two {d : Nat} (h : 1 ≤ d) : (2 : Int) ^ d = 2 * 2 ^ (d - 1) := by
  obtain ⟨k, rfl⟩ : ∃ k, d = k + 1 := ⟨d - 1, by omega⟩
  rw [Nat.add_sub_cancel, Int.pow_succ, Int.mul_comm]
def Smp (d : Nat) (y : Int) : Prop := -(2 ^ (d - 1)) ≤ y ∧ y ≤ 2 ^ (d - 1) - 1
section
variable {P : Program} {w : World} {K : PySem.W.Frag} {mg : Str → Option Value} {base : Heap}
def sp_row_of (C : Addr) (K : PySem.W.Frag) : Sp := fun vs H Q _ => ∃ (a b : Addr) (ws : List Int) (sh : Nat) (rs : List Int) (d : Nat), vs = [.ref a, .int d, .ref b] ∧ GuesserAt C H a ws sh ∧ Rd H b (.lst (rs.map V.int)) ∧ rs.length ≤ 1000 ∧ Samples d rs ∧ 1 ≤ d ∧ d ≤ 32 ∧
  ∀ H' p, Same H H' → H p = none → H' p = some (.lst ((backGo ws sh d [] rs).map V.int)) → Q (.ref p) H'
theorem G_row_of (T : Top K mg) : FnOk P w K mg base CX0 6 T.f_row_of T.fd_row_of ["guesser", "depth", "rests"] (sp_row_of T.C_Guesser K) := by
  refine T.F_row_of.ok sc_row_of (fun vs H Q E h => by obtain ⟨a, b, ws, sh, rs, d, rfl, _⟩ := h; rfl) (fun cdv A outer s H vs Q E hr h => ?_)
  obtain ⟨a, b, ws, sh, rs, d, rfl, hG, hB, hl, hs, h0, h1, q⟩ := h
  refine ⟨_, PSs.nox (pss_cons (ps_expr (pe_call (G_check_guesser (P := P) T) (hr.mono (by decide)) (by rfl) T.g_check_guesser T.F_check_guesser.kp T.b_check_guesser .nil pass0 (pa_cons (pv 0) pa_nil)))
  (pss_cons (ps_expr (pe_call (G_check_depth (P := P) T) (hr.mono (by decide)) (by rfl) T.g_check_depth T.F_check_depth.kp T.b_check_depth .nil pass0 (pa_cons (pv 1) (pa_cons (pe_glob (v := .int 32) rfl T.m_MOST_DEPTH_guessers ⟨_, rfl⟩) pa_nil))))
  (pss_cons (ps_expr (pe_call (G_check_row (P := P) T) (hr.mono (by decide)) (by rfl) T.g_check_row T.F_check_row.kp T.b_check_row .nil pass0 (pa_cons (pv 1) (pa_cons (pv 2) pa_nil))))
  (pss_cons (ps_set (i := 3) sc_row_of.nd rfl (by first | exact Or.inl rfl | exact Or.inr rfl) (pe_callB (k_len K rfl) (by rfl) T.n_len (by decide +kernel) (pa_cons (pe_fld (pv 0) rfl) pa_nil)))
  (pss_cons (ps_set (i := 4) sc_row_of.nd rfl (by first | exact Or.inl rfl | exact Or.inr rfl) (pe_callTy (k_listOf K rfl) (by rfl) T.n_list (by decide +kernel) (pa_cons (pe_slice (k_slL K rfl) (pv 2) po_none (po_some (pv 3))) pa_nil)))
  (pss_cons (ps_for PassesOwn.never rfl (k_piL K rfl (pe_slice (k_slL K rfl) (pv 2) (po_some (pv 3)) po_none)) (pg_name (i := 5) sc_row_of.nd rfl (by first | exact Or.inl rfl | exact Or.inr rfl))
    (pss_one (ps_expr (pe_bm PySem.F.plainAttrs_list PySem.F.slot_list_append PySem.F.type_list_append mt_append (pv 4) (pa_cons (pe_call (G_wrapped (P := P) T) (hr.mono (by decide)) (by rfl) T.g_wrapped T.F_wrapped.kp T.b_wrapped .nil pass0 (pa_cons (pe_op op_add (pv 5) (pe_call (G_guess_behind (P := P) T) (hr.mono (by decide)) (by rfl) T.g_guess_behind T.F_guess_behind.kp T.b_guess_behind .nil pass0 (pa_cons (pv 0) (pa_cons (pe_slice (k_slL K rfl) (pv 4) (po_some (pe_op op_sub (pe_callB (k_len K rfl) (by rfl) T.n_len (by decide +kernel) (pa_cons (pv 4) pa_nil)) (pv 3))) po_none) pa_nil)))) (pa_cons (pv 1) pa_nil))) pa_nil)))))
  (pss_one (ps_ret (pv 4))))))))), ?_⟩
  refine ⟨_, rfl, a, ws, sh, rfl, hG, ?_⟩
  refine ⟨_, rfl, (d : Int), 32, rfl, by omega, by omega, ?_⟩
  refine ⟨_, rfl, _, rfl, b, rs, d, rfl, hB, hs, hl, h0, by omega, fun H1 s1 => ?_⟩
  obtain ⟨hW, _, dx, p, ha, hp⟩ := id (hG.same s1)
  have hB1 : SqL K H1 b (rs.map V.int) := s1.seq (.inl hB)
  refine ⟨_, rfl, a, T.C_Guesser, dx, _, _, rfl, ha, T.cl_Guesser, T.na_Guesser_parts, rfl, p, _, rfl, .inl (.inl (.inl hp)), ?_⟩
  rw [List.length_map]
  refine ⟨_, rfl, _, rfl, _, rfl, b, _, rfl, hB1, fun c nc => ?_⟩
  rw [cut_take, ← List.map_take]
  obtain ⟨H2, e2, s2, h2⟩ := fresh (.lst ((rs.take ws.length).map V.int)) nc
  rw [e2]
  refine ⟨c, _, rfl, .inl (.inl (.inl h2)), fun f nf => ?_⟩
  obtain ⟨H3, e3, s3, h3⟩ := fresh (.lst ((rs.take ws.length).map V.int)) nf
  rw [e3]
  have s13 := (s1.trans s2).trans s3
  have nHf : H f = none := s1.free (s2.free nf)
  refine ⟨_, rfl, _, rfl, _, rfl, b, _, rfl, s13.seq (.inl hB), fun g ng => ?_⟩
  rw [cut_drop, ← List.map_drop]
  obtain ⟨H4, e4, s4, h4⟩ := fresh (.lst ((rs.drop ws.length).map V.int)) ng
  rw [e4]
  have s14 := s13.trans s4
  have ngf : g ≠ f := ne_of_none h3 ng |>.symm
  have hb := back_len ws sh d rs []
  have hw8 := hW.1
  refine ⟨g, rfl, ⟨_, .inl (.inl h4)⟩, for_list (K := K) (a := g) (xs := (rs.drop ws.length).map V.int) (fun i σ H5 => ∃ v5, σ = [some (.ref a), some (.int d), some (.ref b), some (.int ws.length), some (.ref f), v5] ∧ Same H H5 ∧ H5 g = some (.lst ((rs.drop ws.length).map V.int)) ∧ H5 f = some (.lst (((backGo ws sh d [] rs).take (ws.length + i)).map V.int)))
    ⟨none, rfl, s14, h4, ?_⟩ (fun i σ H5 _ ⟨_, _, _, e, _⟩ => .inl (.inl e)) ?_ ?_⟩
  · rw [s4 _ _ h3, Nat.add_zero, back_firsts ws sh d rs hs _ (Nat.le_refl _)]
  · rintro i x σ H5 hx ⟨v5, rfl, s5, hg5, hf5⟩
    obtain ⟨r, hr, rfl⟩ := int_at hx
    rw [List.getElem?_drop] at hr
    have hi : ws.length + i < rs.length := (List.getElem?_eq_some_iff.mp hr).1
    have er : r = rs.getD (ws.length + i) 0 := by rw [List.getD_eq_getElem?_getD, hr]; rfl
    have hlen : ((backGo ws sh d [] rs).take (ws.length + i)).length = ws.length + i := by rw [List.length_take]; omega
    refine ⟨_, rfl, .inl ⟨rfl, _, .inl (.inl hf5)⟩, _, rfl, _, rfl, _, rfl, _, rfl, f, _, rfl, .inl (.inl (.inl hf5)), _, rfl, _, _, rfl, rfl, _, rfl, f, _, rfl, .inl (.inl hf5), fun c2 nc2 => ?_⟩
    rw [List.length_map, hlen, show ((ws.length + i : Nat) : Int) - (ws.length : Int) = (i : Int) by omega, cut_drop, ← List.map_drop]
    obtain ⟨H6, e6, s6, h6⟩ := fresh (.lst ((((backGo ws sh d [] rs).take (ws.length + i)).drop i).map V.int)) nc2
    rw [e6]
    refine ⟨a, c2, ws, sh, _, rfl, (hG.same s5).same s6, .inl (.inl h6), by rw [List.length_drop, hlen]; omega, fun H7 s7 => ?_⟩
    rw [guess_end ws sh _ i (by rw [hlen]; omega)]
    refine ⟨_, _, rfl, rfl, _, rfl, _, d, rfl, h0, by omega, ?_⟩
    have eb := back_at ws sh d rs [] (ws.length + i) hi
    rw [List.nil_append] at eb
    have et : told0 ws sh ((backGo ws sh d [] rs).take (ws.length + i)) = guessF ws sh ((backGo ws sh d [] rs).take (ws.length + i)) := by
      unfold told0
      rw [if_neg (by rw [hlen]; omega)]
    rw [et, ← er] at eb
    rw [← eb]
    have hf7 := s7 _ _ (s6 _ _ hf5)
    refine ⟨f, _, _, rfl, rfl, hf7, by rw [List.length_map, hlen]; exact small1000 (by omega), ?_⟩
    refine ⟨_, rfl, same_over nHf ((s5.trans s6).trans s7), ?_, ?_⟩
    · rw [upd_ne ngf]
      exact s7 _ _ (s6 _ _ hg5)
    · rw [upd_same, ← Nat.add_assoc, List.take_add_one, List.getElem?_eq_getElem (by omega), getD_of (by omega), List.map_append]
      rfl
  · rintro σ H5 ⟨v5, rfl, s5, hg5, hf5⟩
    refine ⟨_, rfl, q _ f s5 nHf ?_⟩
    rw [hf5, List.take_of_length_le]
    rw [List.length_map, List.length_drop]
    omega
def sp_law_sample : Sp := fun vs H Q _ => ∃ (g : Addr) (d n : Nat), vs = [.ref g, .int d] ∧ GenAt H g n ∧ n ≤ 10 ^ 9 ∧ 1 ≤ d ∧ d ≤ 32 ∧ ∀ (y : Int) H', Smp d y → But g H H' → GenAt H' g (n + 200) → Q (.int y) H'
theorem G_law_sample (T : Top K mg) : FnOk P w K mg base CX0 3 T.f_law_sample T.fd_law_sample ["_law_generator_here", "_law_depth"] sp_law_sample := by
  refine T.F_law_sample.ok sc_law_sample (fun vs H Q E h => by obtain ⟨g, d, n, rfl, _⟩ := h; rfl) (fun cdv A outer s H vs Q E hr h => ?_)
  obtain ⟨g, d, n, rfl, hG, hn, h0, h1, q⟩ := h
  refine ⟨_, PSs.nox (pss_cons (ps_set (i := 2) sc_law_sample.nd rfl (by first | exact Or.inl rfl | exact Or.inr rfl) (pe_un un_neg (pe_op op_shl pe_int (pe_op op_sub (pv 1) pe_int))))
  (pss_one (ps_ret (pe_ix (k_ixL K rfl) (pe_lst (pa_cons (pv 2) (pa_cons (pe_op op_sub (pe_op op_shl pe_int (pe_op op_sub (pv 1) pe_int)) pe_int) (pa_cons pe_int (pa_cons (pe_op op_add (pv 2) (pe_call (G_law_random (P := P) T) (hr.mono (by decide)) (by rfl) T.g_law_random T.F_law_random.kp T.b_law_random .nil pass0 (pa_cons (pv 0) (pa_cons (pe_op op_shl pe_int (pv 1)) pa_nil)))) pa_nil))))) (pe_call (G_law_random (P := P) T) (hr.mono (by decide)) (by rfl) T.g_law_random T.F_law_random.kp T.b_law_random .nil pass0 (pa_cons (pv 0) (pa_cons pe_int pa_nil))) (fun _ _ => rfl))))), ?_⟩
  have hp := pow_pos' (d - 1)
  have hpd := pow_two h0
  have h32 : (2 : Int) ^ d ≤ 2 ^ 32 := pow2_le h1
  refine ⟨_, rfl, _, _, rfl, rfl, _, _, rfl, rfl, ⟨by omega, by omega, by decide⟩, _, rfl, ?_⟩
  dsimp only
  rw [Int.one_mul, pred_toNat h0]
  refine ⟨_, rfl, _, rfl, _, _, rfl, rfl, _, _, rfl, rfl, ⟨by omega, by omega, by decide⟩, _, _, rfl, rfl, ?_⟩
  dsimp only
  rw [Int.one_mul, pred_toNat h0]
  refine ⟨_, rfl, _, rfl, _, rfl, _, _, rfl, rfl, ⟨by omega, by omega, by decide⟩, ?_⟩
  dsimp only
  rw [Int.one_mul, Int.toNat_natCast]
  refine ⟨g, _, _, rfl, hG, by omega, by omega, small_2900 (by omega), fun r1 H1 r10 r11 g1 b1 => ?_⟩
  refine ⟨_, _, rfl, rfl, (show 4 ≤ sizeLine by decide), fun c nc => ?_⟩
  dsimp only
  obtain ⟨H2, e2, s2, h2⟩ := fresh (.lst [V.int (-(2 ^ (d - 1))), V.int (2 ^ (d - 1) - 1), V.int 0, V.int (-(2 ^ (d - 1)) + r1)]) nc
  rw [e2]
  refine ⟨_, rfl, g, _, _, rfl, g1.same s2, by omega, by decide, small_2900 (by decide), fun kd H3 k0 k1 g3 b3 => ?_⟩
  have h3 : H3 c = some (.lst [V.int (-(2 ^ (d - 1))), V.int (2 ^ (d - 1) - 1), V.int 0, V.int (-(2 ^ (d - 1)) + r1)]) := b3 _ _ (g1.ne nc) h2
  have hx : ∃ y : Int, atI [V.int (-(2 ^ (d - 1))), V.int (2 ^ (d - 1) - 1), V.int 0, V.int (-(2 ^ (d - 1)) + r1)] kd = some (.int y) ∧ Smp d y := by
    have hk : kd = 0 ∨ kd = 1 ∨ kd = 2 ∨ kd = 3 := by omega
    rcases hk with rfl | rfl | rfl | rfl
    · exact ⟨_, rfl, by omega, by omega⟩
    · exact ⟨_, rfl, by omega, by omega⟩
    · exact ⟨_, rfl, by omega, by omega⟩
    · exact ⟨_, rfl, by omega, by omega⟩
  obtain ⟨y, ay, hy⟩ := hx
  exact ⟨c, _, _, _, rfl, rfl, .inl (.inl h3), ay, q y _ hy ((b1.same s2).trans b3) (g3.mono (by omega))⟩
def sp_law_row : Sp := fun vs H Q _ => ∃ (g : Addr) (d m n : Nat), vs = [.ref g, .int d, .int m] ∧ GenAt H g n ∧ n ≤ 10 ^ 8 ∧ 1 ≤ d ∧ d ≤ 32 ∧ m ≤ 100 ∧
  ∀ H' p (ys : List Int), H p = none → But g H H' → GenAt H' g (n + 100000) → H' p = some (.lst (ys.map V.int)) → ys.length = m → Samples d ys → Q (.ref p) H'
theorem G_law_row (T : Top K mg) : FnOk P w K mg base CX0 4 T.f_law_row T.fd_law_row ["_law_generator_here", "_law_depth", "_law_many"] sp_law_row := by
  refine T.F_law_row.ok sc_law_row (fun vs H Q E h => by obtain ⟨g, d, m, n, rfl, _⟩ := h; rfl) (fun cdv A outer s H vs Q E hr h => ?_)
  obtain ⟨g, d, m, n, rfl, hG, hn, h0, h1, hm, q⟩ := h
  refine ⟨_, PSs.nox (pss_one (ps_ret (pe_lc (own := [("_law_place", 3)]) (g := gName 3) (tt := tYes) (by rfl) sc_law_row.nd (pi_range1 (by rfl) T.n_range (pa_cons (pv 2) pa_nil)) (blkOk_by (own := [("_law_place", 3)]) (N := N_law_row) (sc := defScope s_law_row) (by decide +kernel)) (fun _ _ _ _ _ => (pg_name (i := 3) sc_law_row.nd rfl (by first | exact Or.inl rfl | exact Or.inr rfl))) (fun _ _ _ _ _ => pts_nil) (fun _ _ _ _ _ => (pe_call (G_law_sample (P := P) T) (hr.mono (by decide)) (by rfl) T.g_law_sample T.F_law_sample.kp T.b_law_sample .nil pass0 (pa_cons (pv 0) (pa_cons (pv 1) pa_nil))))))), ?_⟩
  refine ⟨_, rfl, _, rfl, by omega, by omega, fun D nD => ?_⟩
  rw [Int.toNat_natCast]
  refine lc_drawR (lo := 0) (n := m) g n 200 (Smp d) nD hG (small1000 (by omega)) (fun x => rfl) ?_ ?_
  · intro i H' hi b hg Qt qt
    exact ⟨_, rfl, _, rfl, g, d, _, rfl, hg, by omega, h0, h1, fun y H2 hy b2 g2 => qt y H2 hy b2 (by rw [Nat.mul_succ, ← Nat.add_assoc]; exact g2)⟩
  · intro H' ys b hg hD hl hP
    exact q _ D ys nD b (hg.mono (by omega)) hD hl hP
end
end My

namespace My
open PySem PySem.Spec PyProof.Rows L2 Pre
/-! ### tables -/
def rowT (b k t : Nat) : List Int := intsN ((List.range (t + 1)).map (tbl b k))
theorem rowT_len (b k t : Nat) : (rowT b k t).length = t + 1 := by unfold rowT intsN; rw [List.length_map, List.length_map, List.length_range]
theorem rowT_at (b k t : Nat) {j : Nat} (h : j ≤ t) : ((rowT b k t).map V.int)[j]? = some (.int ((tbl b k j : Nat) : Int)) := by
  unfold rowT intsN
  rw [List.getElem?_map, List.getElem?_map, List.getElem?_map, List.getElem?_range (by omega)]
  rfl
def TabAt (H : Hp) (p : Addr) (b m t : Nat) : Prop := ∃ as : List Addr, H p = some (.lst (as.map V.ref)) ∧ as.length = m + 1 ∧ ∀ (k : Nat) (a : Addr), as[k]? = some a → H a = some (.lst ((rowT b k t).map V.int))
theorem TabAt.same {H H' : Hp} {p : Addr} {b m t : Nat} (h : TabAt H p b m t) (s : Same H H') : TabAt H' p b m t := by
  obtain ⟨as, h1, h2, h3⟩ := h
  exact ⟨as, s _ _ h1, h2, fun k a e => s _ _ (h3 k a e)⟩
theorem at_end {xs : List V} {n : Nat} {v : V} (hl : xs.length = n + 1) (h : xs[n]? = some v) : atI xs (-1) = some v := by
  unfold atI
  unfold ixN
  rw [hl, if_neg (by omega), if_pos (by omega), show (-1 + ((n + 1 : Nat) : Int)).toNat = n by omega]
  exact h
theorem row_grow (b k : Nat) (j : Nat) : intsN ((List.range (j + 1)).map (tbl b k)) = intsN ((List.range j).map (tbl b k)) ++ [((tbl b k j : Nat) : Int)] := by
  unfold intsN
  rw [List.range_succ, List.map_append, List.map_append]
  rfl
local macro_rules | `(tactic| walk_at "go") => `(tactic| repeat (first | (with_reducible first | refine iteT ?_ | refine iteF ?_ | refine iteNtt ?_ | refine iteNff ?_ | refine iteET (by omega) ?_ | refine iteEF (by omega) ?_ | refine iteENT (by omega) ?_ | refine iteENF (by omega) ?_ | refine iteDT (by omega) ?_ | refine iteDF (by omega) ?_ | refine iteNT (by omega) ?_ | refine iteNF (by omega) ?_) | refine ⟨_, rfl, ?_⟩ | refine ⟨_, _, rfl, rfl, ?_⟩ | refine ⟨_, _, rfl, ?_⟩ | refine ⟨rfl, ?_⟩ | refine .inl ⟨_, rfl, ?_⟩ | refine .inr ⟨_, rfl, ?_⟩))
local macro_rules | `(tactic| walk_at "b") => `(tactic| try dsimp (config := { proj := false, iota := false, eta := false, zeta := false }) only)
section
variable {P : Program} {w : World} {K : PySem.W.Frag} {mg : Str → Option Value} {base : Heap} [pf : Sup.PF P fileS]
theorem TabAt.row {H : Hp} {p : Addr} {b m t k : Nat} {i : Int} {Q : VK} (h : TabAt H p b m t) (hk : k ≤ m) (hi : i = (k : Int) ∨ (i = -1 ∧ k = m)) (q : ∀ a, H a = some (.lst ((rowT b k t).map V.int)) → Q (.ref a) H) : rIxL K (.ref p) (.int i) H Q := by
  obtain ⟨as, h1, h2, h3⟩ := h
  have hlt : k < as.length := by omega
  refine ⟨p, _, i, .ref as[k], rfl, rfl, .inl (.inl h1), ?_, q _ (h3 k _ (List.getElem?_eq_getElem hlt))⟩
  have e : (as.map V.ref)[k]? = some (.ref as[k]) := by rw [List.getElem?_map, List.getElem?_eq_getElem hlt]; rfl
  rcases hi with rfl | ⟨rfl, e2⟩
  · exact at_of (j := k) rfl e
  · exact at_end (n := k) (by rw [List.length_map, h2, e2]) e
theorem row_cell {H : Hp} {a : Addr} {b t k j : Nat} {n : Int} {Q : VK} (h : H a = some (.lst ((rowT b k t).map V.int))) (hj : j ≤ t) (hn : n = (j : Int)) (q : Q (.int ((tbl b k j : Nat) : Int)) H) : rIxL K (.ref a) (.int n) H Q :=
  ⟨a, _, n, _, rfl, rfl, .inl (.inl h), at_of (j := j) hn (rowT_at b k t hj), q⟩
def sp_tables : Sp := fun vs H Q _ => ∃ m b t : Nat, vs = [.int m, .int b, .int t] ∧ m ≤ 100 ∧ 1 ≤ b ∧ t ≤ 1000 ∧ ∀ H' p, Same H H' → H p = none → TabAt H' p b m t → Q (.ref p) H'
theorem G_tables (T : Top K mg) : FnOk P w K mg base CX0 1 T.f_tables T.fd_tables ["many", "bound", "total"] sp_tables := by
  refine T.F_tables.ok sc_tables (fun vs H Q E h => by obtain ⟨m, b, t, rfl, _⟩ := h; rfl) (fun cdv A outer s H vs Q E hr h => ?_)
  obtain ⟨m, b, t, rfl, hm, hb, ht, q⟩ := h
  refine ⟨_, PSs.nox (pss_cons (ps_set (i := 3) sc_tables.nd rfl (by first | exact Or.inl rfl | exact Or.inr rfl) (pe_lst (pa_cons (pe_op op_cat (pe_lst (pa_cons pe_int pa_nil)) (pe_op op_rep (pe_lst (pa_cons pe_int pa_nil)) (pv 2))) pa_nil)))
  (pss_cons (ps_for PassesOwn.never rfl (pi_range1 (by rfl) T.n_range (pa_cons (pv 0) pa_nil)) (pg_name (i := 4) sc_tables.nd rfl (by first | exact Or.inl rfl | exact Or.inr rfl))
    (pss_cons (ps_par (by rfl) sc_tables.nd (i := 6) (j := 7) rfl rfl (by decide) rfl rfl (pa_cons (pe_lst pa_nil) (pa_cons pe_int pa_nil)) (by rfl))
  (pss_cons (ps_for PassesOwn.never rfl (pi_range1 (by rfl) T.n_range (pa_cons (pe_op op_add (pv 2) pe_int) pa_nil)) (pg_name (i := 5) sc_tables.nd rfl (by first | exact Or.inl rfl | exact Or.inr rfl))
    (pss_cons (ps_set (i := 7) sc_tables.nd rfl (by first | exact Or.inl rfl | exact Or.inr rfl) (pe_op op_add (pv 7) (pe_ix (k_ixL K rfl) (pe_ix (k_ixL K rfl) (pv 3) (pe_un un_neg pe_int) (fun _ _ => rfl)) (pv 5) (fun _ _ => rfl))))
  (pss_cons (ps_if (pt_cmpR op_ge (pv 5) (pv 1) (nomark _))
    (pss_one (ps_set (i := 7) sc_tables.nd rfl (by first | exact Or.inl rfl | exact Or.inr rfl) (pe_op op_sub (pv 7) (pe_ix (k_ixL K rfl) (pe_ix (k_ixL K rfl) (pv 3) (pe_un un_neg pe_int) (fun _ _ => rfl)) (pe_op op_sub (pv 5) (pv 1)) (fun _ _ => rfl)))))
    pss_nil)
  (pss_one (ps_expr (pe_bm PySem.F.plainAttrs_list PySem.F.slot_list_append PySem.F.type_list_append mt_append (pv 6) (pa_cons (pv 7) pa_nil)))))))
  (pss_one (ps_expr (pe_bm PySem.F.plainAttrs_list PySem.F.slot_list_append PySem.F.type_list_append mt_append (pv 3) (pa_cons (pv 6) pa_nil)))))))
  (pss_one (ps_ret (pv 3))))), ?_⟩
  refine ⟨(show 1 ≤ sizeLine by decide), fun l1 nl1 => ?_⟩
  obtain ⟨H1, e1, s1, h1⟩ := fresh (.lst [V.int 1]) nl1
  rw [e1]
  refine ⟨(show 1 ≤ sizeLine by decide), fun l0 nl0 => ?_⟩
  obtain ⟨H2, e2, s2, h2⟩ := fresh (.lst [V.int 0]) nl0
  rw [e2]
  refine ⟨_, rfl, l0, _, _, rfl, rfl, h2, by omega, by omega, ?_, fun f nf => ?_⟩
  · rw [Int.toNat_natCast]
    show 1 * _ ≤ sizeLine
    rw [sizeLine_eq]
    omega
  rw [Int.toNat_natCast]
  have e0 : (List.replicate t [V.int 0]).flatten = (List.replicate t (0 : Int)).map V.int := by
    clear q
    induction t with
    | zero => rfl
    | succ n ih => rw [List.replicate_succ, List.flatten_cons, ih (by omega), List.replicate_succ]; rfl
  rw [e0]
  obtain ⟨H3, e3, s3, h3⟩ := fresh (.lst ((List.replicate t (0 : Int)).map V.int)) nf
  rw [e3]
  have er : [V.int 1] ++ (List.replicate t (0 : Int)).map V.int = (rowT b 0 t).map V.int := by
    unfold rowT
    rw [← row0]
    unfold intsN
    rw [List.map_cons, List.map_cons, List.map_replicate, List.map_replicate, List.map_replicate]
    rfl
  refine ⟨l1, f, _, _, rfl, rfl, s3 _ _ (s2 _ _ h1), h3, ?_, fun r nr => ?_⟩
  · rw [List.length_map, List.length_replicate, sizeLine_eq]
    show 1 + t ≤ _
    omega
  rw [er]
  obtain ⟨H4, e4, s4, h4⟩ := fresh (.lst ((rowT b 0 t).map V.int)) nr
  rw [e4]
  refine ⟨(show 1 ≤ sizeLine by decide), fun p np => ?_⟩
  obtain ⟨H5, e5, s5, h5⟩ := fresh (.lst [V.ref r]) np
  rw [e5]
  have s04 := ((s1.trans s2).trans s3).trans s4
  have nHp : H p = none := s04.free np
  refine ⟨_, rfl, _, rfl, by omega, by omega, ?_⟩
  rw [Int.toNat_natCast]
  refine for_range (lo := 0) (n := m) (fun k σ H6 => ∃ v4 v5 v6 v7, σ = [some (.int m), some (.int b), some (.int t), some (.ref p), v4, v5, v6, v7] ∧ Same H H6 ∧ TabAt H6 p b k t)
    ⟨none, none, none, none, rfl, s04.trans s5, [r], h5, rfl, fun k a e => ?_⟩ ?_ ?_
  · have hk : k = 0 := by
      have := (List.getElem?_eq_some_iff.mp e).1
      rw [List.length_singleton] at this
      omega
    subst hk
    cases e
    exact s5 _ _ h4
  · rintro k σ H6 hk ⟨v4, v5, v6, v7, rfl, s6, hT⟩
    obtain ⟨as, ha, hal, hat⟩ := id hT
    refine ⟨Nat.zero_le _, fun r nr => ?_⟩
    have nrp : r ≠ p := (ne_of_none ha nr).symm
    obtain ⟨H7, e7, s7, h7⟩ := fresh (.lst []) nr
    rw [e7]
    refine ⟨_, _, rfl, ?_⟩
    refine ⟨_, rfl, _, _, rfl, rfl, _, rfl, by omega, by omega, ?_⟩
    rw [show ((t : Int) + 1).toNat = t + 1 by omega]
    refine for_range (lo := 0) (n := t + 1) (fun j σ H8 => ∃ v5, σ = [some (.int m), some (.int b), some (.int t), some (.ref p), some (.int (0 + (k : Int))), v5, some (.ref r), some (.int (accT b k j : Nat))] ∧ Same H6 H8 ∧ H8 r = some (.lst ((intsN ((List.range j).map (tbl b (k + 1)))).map V.int))) ⟨_, rfl, s7, h7⟩ ?_ ?_
    · rintro j σ H8 hj ⟨v5, rfl, s8, h8⟩
      have hT8 := hT.same s8
      refine ⟨_, rfl, _, rfl, _, rfl, hT8.row (k := k) (Nat.le_refl _) (.inr ⟨rfl, rfl⟩) fun a1 ha1 => ?_⟩
      refine ⟨_, rfl, row_cell ha1 (j := j) (by omega) (by omega) ?_⟩
      refine ⟨_, _, rfl, rfl, ?_⟩
      refine ⟨_, rfl, _, rfl, _, _, rfl, rfl, _, rfl, ?_⟩
      have hn := acc_next hb k j
      have he : accT b k (j + 1) = tbl b (k + 1) j := by unfold accT; rw [if_neg (by omega), Nat.add_sub_cancel]
      have hgrow := row_grow b (k + 1) j
      have hlen : ((intsN ((List.range j).map (tbl b (k + 1)))).map V.int).length = j := by unfold intsN; rw [List.length_map, List.length_map, List.length_map, List.length_range]
      have fin : ∀ z : Int, z = ((tbl b (k + 1) j : Nat) : Int) → ∃ v5', [some (V.int (m : Int)), some (V.int b), some (V.int t), some (V.ref p), some (V.int (0 + (k : Int))), some (V.int (0 + (j : Int))), some (V.ref r), some (V.int z)] = [some (V.int (m : Int)), some (V.int b), some (V.int t), some (V.ref p), some (V.int (0 + (k : Int))), v5', some (V.ref r), some (V.int ((accT b k (j + 1) : Nat) : Int))] ∧ Same H6 (upd H8 r (.lst ((intsN ((List.range j).map (tbl b (k + 1)))).map V.int ++ [V.int z]))) ∧ (upd H8 r (.lst ((intsN ((List.range j).map (tbl b (k + 1)))).map V.int ++ [V.int z]))) r = some (.lst ((intsN ((List.range (j + 1)).map (tbl b (k + 1)))).map V.int)) := fun z hz => by
        refine ⟨_, by rw [hz, he], same_over nr s8, ?_⟩
        rw [upd_same, hgrow, hz, List.map_append]
        rfl
      by_cases c : b ≤ j
      · have ce : (0 + (j : Int)) ≥ (b : Int) := by omega
        rw [decide_eq_true ce]
        unfold lagT at hn
        rw [if_pos c] at hn
        refine iteT ⟨_, rfl, _, rfl, _, rfl, hT8.row (k := k) (Nat.le_refl _) (.inr ⟨rfl, rfl⟩) fun a2 ha2 => ?_⟩
        refine ⟨_, rfl, _, rfl, _, _, rfl, rfl, row_cell ha2 (j := j - b) (by omega) (by omega) ?_⟩
        refine ⟨_, _, rfl, rfl, ?_⟩
        refine ⟨_, rfl, .inl ⟨rfl, _, .inl (.inl h8)⟩, _, rfl, r, _, _, rfl, rfl, h8, by rw [hlen]; exact small1000 (by omega), ?_⟩
        refine fin _ ?_
        show ((accT b k j : Nat) : Int) + ((tbl b k j : Nat) : Int) - ((tbl b k (j - b) : Nat) : Int) = _
        omega
      · have ce : ¬ (0 + (j : Int)) ≥ (b : Int) := by omega
        rw [decide_eq_false ce]
        unfold lagT at hn
        rw [if_neg c] at hn
        refine iteF ⟨_, rfl, .inl ⟨rfl, _, .inl (.inl h8)⟩, _, rfl, r, _, _, rfl, rfl, h8, by rw [hlen]; exact small1000 (by omega), ?_⟩
        refine fin _ ?_
        show ((accT b k j : Nat) : Int) + ((tbl b k j : Nat) : Int) = _
        omega
    · rintro σ H8 ⟨v5, rfl, s8, h8⟩
      refine ⟨_, rfl, .inl ⟨rfl, _, .inl (.inl (s8 _ _ ha))⟩, _, rfl, p, _, _, rfl, rfl, s8 _ _ ha, by rw [List.length_map]; exact small1000 (by omega), ?_⟩
      refine ⟨_, _, _, _, rfl, same_over nHp (s6.trans s8), as ++ [r], ?_, by rw [List.length_append, hal]; rfl, fun i a e => ?_⟩
      · rw [upd_same, List.map_append]
        rfl
      · have hne : ∀ x ys, H8 x = some (.lst ys) → x ≠ p → (upd H8 p (.lst (as.map V.ref ++ [V.ref r]))) x = some (.lst ys) := fun x ys hx hxp => by rw [upd_ne hxp]; exact hx
        by_cases c : i < as.length
        · rw [List.getElem?_append_left c] at e
          refine hne a _ (s8 _ _ (hat i a e)) fun z => ?_
          have h1 := hat i a e
          rw [z, ha] at h1
          have h2 := congrArg (fun o : Option HO => match o with | some (.lst l) => l[0]? | _ => none) h1
          have h3 : (as.map V.ref)[0]? = ((rowT b i t).map V.int)[0]? := h2
          rw [rowT_at b i t (Nat.zero_le _), List.getElem?_map] at h3
          cases q0 : as[0]? with
          | none => rw [q0] at h3; cases h3
          | some x => rw [q0] at h3; cases h3
        · rw [List.getElem?_append_right (by omega)] at e
          have hi : i - as.length = 0 := by
            have := (List.getElem?_eq_some_iff.mp e).1
            rw [List.length_singleton] at this
            omega
          rw [hi] at e
          cases e
          have : i = k + 1 := by omega
          subst this
          exact hne _ _ h8 nrp
  · rintro σ H6 ⟨v4, v5, v6, v7, rfl, s6, hT⟩
    exact ⟨_, rfl, q _ p s6 nHp hT⟩
end
end My

namespace My
open PySem PySem.Spec PyProof.Rows L2 Pre
/-! ### folds, sizes, numbers of rows -/
theorem sum_cast : ∀ l : List Nat, (intsN l).sum = ((l.sum : Nat) : Int)
  | [] => rfl
  | x :: l => by
    show (x : Int) + (intsN l).sum = _
    rw [sum_cast l, List.sum_cons]
    omega
theorem intsN_len (l : List Nat) : (intsN l).length = l.length := by unfold intsN; rw [List.length_map]
theorem intsN_at {l : List Nat} {i : Nat} {x : V} (h : ((intsN l).map V.int)[i]? = some x) : ∃ n : Nat, l[i]? = some n ∧ x = .int (n : Int) := by
  unfold intsN at h
  rw [List.getElem?_map, List.getElem?_map] at h
  cases e : l[i]? with
  | none => rw [e] at h; cases h
  | some n => rw [e] at h; cases h; exact ⟨n, rfl, rfl⟩
theorem size_sum (w : Nat) : ∀ fs : List Nat, (fs.map fun f => f / 2 ^ w + 1 + w).sum = sizeN w fs
  | [] => by unfold sizeN totF; simp
  | f :: fs => by
    rw [List.map_cons, List.sum_cons, size_sum w fs]
    unfold sizeN
    rw [tot_cons, List.length_cons, Nat.succ_mul]
    omega
theorem mul_bd {a b x y : Nat} (h1 : a < 2 ^ x) (h2 : b < 2 ^ y) : a * b < 2 ^ (x + y) := by
  rw [Nat.pow_add]
  exact Nat.mul_lt_mul'' h1 h2
theorem divN_cast (f i : Nat) : (f : Int) / 2 ^ i = ((f / 2 ^ i : Nat) : Int) := by rw [Int.natCast_ediv, Int.natCast_pow]; rfl
theorem modN_cast (f i : Nat) : (f : Int) % 2 ^ i = ((f % 2 ^ i : Nat) : Int) := by rw [Int.natCast_emod, Int.natCast_pow]; rfl
local macro_rules | `(tactic| walk_at "go") => `(tactic| repeat (first | (with_reducible first | refine iteT ?_ | refine iteF ?_ | refine iteNtt ?_ | refine iteNff ?_ | refine iteET (by omega) ?_ | refine iteEF (by omega) ?_ | refine iteENT (by omega) ?_ | refine iteENF (by omega) ?_ | refine iteDT (by omega) ?_ | refine iteDF (by omega) ?_ | refine iteNT (by omega) ?_ | refine iteNF (by omega) ?_) | refine ⟨_, rfl, ?_⟩ | refine ⟨_, _, rfl, rfl, ?_⟩ | refine ⟨_, _, rfl, ?_⟩ | refine ⟨rfl, ?_⟩ | refine .inl ⟨_, rfl, ?_⟩ | refine .inr ⟨_, rfl, ?_⟩))
local macro_rules | `(tactic| walk_at "b") => `(tactic| try dsimp (config := { proj := false, iota := false, eta := false, zeta := false }) only)
section
variable {P : Program} {w : World} {K : PySem.W.Frag} {mg : Str → Option Value} {base : Heap} [pf : Sup.PF P fileS]
def sp_law_folds (C : Addr) (K : PySem.W.Frag) : Sp := fun vs H Q _ => ∃ (x a : Addr) (ws : List Int) (sh d : Nat) (row : List Int), vs = [.ref x, .int d, .ref a] ∧ GuesserAt C H x ws sh ∧ Rd H a (.lst (row.map V.int)) ∧ row.length ≤ 100 ∧ Samples d row ∧ 1 ≤ d ∧ d ≤ 32 ∧
  ∀ H' p, Same H H' → H p = none → H' p = some (.lst ((intsN (foldsF ws sh d row)).map V.int)) → Q (.ref p) H'
theorem G_law_folds (T : Top K mg) : FnOk P w K mg base CX0 7 T.f_law_folds T.fd_law_folds ["_law_guesser", "_law_depth", "_law_row_here"] (sp_law_folds T.C_Guesser K) := by
  refine T.F_law_folds.ok sc_law_folds (fun vs H Q E h => by obtain ⟨x, a, ws, sh, d, row, rfl, _⟩ := h; rfl) (fun cdv A outer s H vs Q E hr h => ?_)
  obtain ⟨x, a, ws, sh, d, row, rfl, hG, hA, hl, hs, h0, h1, q⟩ := h
  refine ⟨_, PSs.nox (pss_one (ps_ret (pe_lc (own := [("_law_rest", 3)]) (g := gName 3) (tt := tYes) (by rfl) sc_law_folds.nd (k_piL K rfl (pe_call (G_rests (P := P) T) (hr.mono (by decide)) (by rfl) T.g_rests T.F_rests.kp T.b_rests .nil pass0 (pa_cons (pv 0) (pa_cons (pv 1) (pa_cons (pv 2) pa_nil))))) (blkOk_by (own := [("_law_rest", 3)]) (N := N_law_folds) (sc := defScope s_law_folds) (by decide +kernel)) (fun _ _ _ _ _ => (pg_name (i := 3) sc_law_folds.nd rfl (by first | exact Or.inl rfl | exact Or.inr rfl))) (fun _ _ _ _ _ => pts_nil) (fun _ _ _ _ _ => (pe_call (G_law_folded (P := P) T) (hr.mono (by decide)) (by rfl) T.g_law_folded T.F_law_folded.kp T.b_law_folded .nil pass0 (pa_cons (pv 3) pa_nil)))))), ?_⟩
  refine ⟨_, rfl, _, rfl, _, rfl, x, a, ws, sh, row, d, rfl, hG, hA, by omega, hs, h0, h1, fun H1 p s1 np hp => ?_⟩
  have hP : SqL K H1 p ((restsF ws sh d row).map V.int) := .inl (.inl hp)
  have hrl : (restsF ws sh d row).length = row.length := by rw [restsF_go, rests_len]
  refine ⟨p, rfl, ⟨_, hP⟩, fun D nD => ?_⟩
  refine lc_mapL (K := K) (xs := (restsF ws sh d row).map V.int) ((intsN (foldsF ws sh d row)).map V.int) nD hP (by rw [List.length_map, intsN_len, List.length_map, folds_len, hrl]) (by rw [List.length_map, hrl]; exact small1000 (by omega)) (fun x => rfl) ?_ ?_
  · intro i x y H' hx hy s Qt qt
    obtain ⟨n, hn, rfl⟩ := int_at hx
    obtain ⟨m, hm, rfl⟩ := intsN_at hy
    unfold foldsF at hm
    rw [List.getElem?_map, hn] at hm
    cases hm
    exact ⟨_, rfl, n, rfl, qt _ (Same.refl _)⟩
  · intro H3 s3 hD
    exact q _ D (s1.trans s3) (s1.free nD) hD
def sp_law_size (K : PySem.W.Frag) : Sp := fun vs H Q _ => ∃ (a : Addr) (fs : List Nat) (i : Nat), vs = [.ref a, .int i] ∧ SqL K H a ((intsN fs).map V.int) ∧ fs.length ≤ 100 ∧ ∀ H', Same H H' → Q (.int (sizeN i fs : Nat)) H'
theorem G_law_size (T : Top K mg) : FnOk P w K mg base CX0 1 T.f_law_size T.fd_law_size ["_law_folds_here", "_law_width"] (sp_law_size K) := by
  refine T.F_law_size.ok sc_law_size (fun vs H Q E h => by obtain ⟨a, fs, i, rfl, _⟩ := h; rfl) (fun cdv A outer s H vs Q E hr h => ?_)
  obtain ⟨a, fs, i, rfl, hA, hl, q⟩ := h
  refine ⟨_, PSs.nox (pss_one (ps_ret (pe_callB (k_sum K rfl rfl) (by rfl) T.n_sum (by decide +kernel) (pa_cons (pe_lc (own := [("_law_fold", 2)]) (g := gName 2) (tt := tYes) (by rfl) sc_law_size.nd (k_piL K rfl (pv 0)) (blkOk_by (own := [("_law_fold", 2)]) (N := N_law_size) (sc := defScope s_law_size) (by decide +kernel)) (fun _ _ _ _ _ => (pg_name (i := 2) sc_law_size.nd rfl (by first | exact Or.inl rfl | exact Or.inr rfl))) (fun _ _ _ _ _ => pts_nil) (fun _ _ _ _ _ => (pe_op op_add (pe_op op_add (pe_op op_shr (pv 2) (pv 1)) pe_int) (pv 1)))) pa_nil)))), ?_⟩
  refine ⟨_, rfl, a, rfl, ⟨_, hA⟩, fun D nD => ?_⟩
  refine lc_mapL (K := K) (xs := (intsN fs).map V.int) ((intsN (fs.map fun f => f / 2 ^ i + 1 + i)).map V.int) nD hA (by rw [List.length_map, intsN_len, List.length_map, List.length_map, intsN_len]) (by rw [List.length_map, intsN_len]; exact small1000 (by omega)) (fun x => rfl) ?_ ?_
  · intro j x y H' hx hy s Qt qt
    obtain ⟨n, hn, rfl⟩ := intsN_at hx
    obtain ⟨m, hm, rfl⟩ := intsN_at hy
    rw [List.getElem?_map, hn] at hm
    cases hm
    refine ⟨_, rfl, _, rfl, _, _, rfl, rfl, Int.natCast_nonneg _, _, _, rfl, rfl, _, rfl, _, _, rfl, rfl, ?_⟩
    dsimp only
    rw [Int.toNat_natCast, divN_cast]
    exact qt _ (Same.refl _)
  · intro H3 s3 hD
    refine ⟨D, _, rfl, .inl (.inl hD), ?_⟩
    rw [sum_cast, size_sum]
    exact q _ s3
def sp_number_of (C : Addr) (K : PySem.W.Frag) : Sp := fun vs H Q _ => ∃ (x a : Addr) (ws : List Int) (sh d i : Nat) (row : List Int), vs = [.ref x, .int d, .int i, .ref a] ∧ GuesserAt C H x ws sh ∧ Rd H a (.lst (row.map V.int)) ∧ row.length < 14 ∧ Samples d row ∧ 1 ≤ d ∧ d ≤ 24 ∧ i ≤ d ∧ d - i < 4 ∧
  ∀ H' p, Same H H' → H' p = some (.tup ([((sizeN i (foldsF ws sh d row) : Nat) : Int), ((numF i (2 ^ (d - i)) (foldsF ws sh d row) : Nat) : Int)].map V.int)) → Q (.ref p) H'
theorem G_number_of (T : Top K mg) : FnOk P w K mg base CX0 7 T.f_number_of T.fd_number_of ["guesser", "depth", "width", "row"] (sp_number_of T.C_Guesser K) := by
  refine T.F_number_of.ok sc_number_of (fun vs H Q E h => by obtain ⟨x, a, ws, sh, d, i, row, rfl, _⟩ := h; rfl) (fun cdv A outer s H vs Q E hr h => ?_)
  obtain ⟨x, a, ws, sh, d, i, row, rfl, hG, hA, hl, hs, h0, h1, h2, hr4, q⟩ := h
  refine ⟨_, PSs.nox (pss_cons (ps_expr (pe_call (G_check_guesser (P := P) T) (hr.mono (by decide)) (by rfl) T.g_check_guesser T.F_check_guesser.kp T.b_check_guesser .nil pass0 (pa_cons (pv 0) pa_nil)))
  (pss_cons (ps_expr (pe_call (G_check_depth (P := P) T) (hr.mono (by decide)) (by rfl) T.g_check_depth T.F_check_depth.kp T.b0_check_depth T.v0_check_depth pass0 (pa_cons (pv 1) pa_nil)))
  (pss_cons (ps_expr (pe_call (G_check_width (P := P) T) (hr.mono (by decide)) (by rfl) T.g_check_width T.F_check_width.kp T.b_check_width .nil pass0 (pa_cons (pv 2) (pa_cons (pv 1) pa_nil))))
  (pss_cons (ps_if (PW.pt (pw_or (pt_not (pt_val (pe_call (G_are_samples (P := P) T) (hr.mono (by decide)) (by rfl) T.g_are_samples T.F_are_samples.kp T.b_are_samples .nil pass0 (pa_cons (pv 3) (pa_cons (pv 1) pa_nil))))) (pw_or1 (pt_cmpR op_gt (pe_callB (k_len K rfl) (by rfl) T.n_len (by decide +kernel) (pa_cons (pv 3) pa_nil)) (pe_glob (v := .int 200) rfl T.m_MOST_MANY ⟨_, rfl⟩) (nomark _)))))
    (pss_one ps_never)
    pss_nil)
  (pss_cons (ps_setLc (i := 4) (own := [("rest", 11)]) (g := gName 11) (tt := tYes) (by rfl) sc_number_of.nd rfl rfl (sw_true rfl rfl rfl (by decide +kernel)) (k_piL K rfl (pe_call (G_rests (P := P) T) (hr.mono (by decide)) (by rfl) T.g_rests T.F_rests.kp T.b_rests .nil pass0 (pa_cons (pv 0) (pa_cons (pv 1) (pa_cons (pv 3) pa_nil))))) (blkOk_by (own := [("rest", 11)]) (N := N_number_of) (sc := defScope s_number_of) (by decide +kernel)) (fun _ _ _ _ _ => (pg_name (i := 11) sc_number_of.nd rfl (by first | exact Or.inl rfl | exact Or.inr rfl))) (fun _ _ _ _ _ => pts_nil) (fun _ _ _ _ _ => (pe_call (G_folded (P := P) T) (hr.mono (by decide)) (by rfl) T.g_folded T.F_folded.kp T.b_folded .nil pass0 (pa_cons (pv 11) pa_nil))))
  (pss_cons (ps_set (i := 5) sc_number_of.nd rfl (by first | exact Or.inl rfl | exact Or.inr rfl) (pe_callB (k_sum K rfl rfl) (by rfl) T.n_sum (by decide +kernel) (pa_cons (pe_lc (own := [("fold", 10)]) (g := gName 10) (tt := tYes) (by rfl) sc_number_of.nd (k_piL K rfl (pv 4)) (blkOk_by (own := [("fold", 10)]) (N := N_number_of) (sc := defScope s_number_of) (by decide +kernel)) (fun _ _ _ _ _ => (pg_name (i := 10) sc_number_of.nd rfl (by first | exact Or.inl rfl | exact Or.inr rfl))) (fun _ _ _ _ _ => pts_nil) (fun _ _ _ _ _ => (pe_op op_shr (pv 10) (pv 2)))) pa_nil)))
  (pss_cons (ps_par3 (by rfl) sc_number_of.nd (i := 6) (j := 7) (l := 8) rfl rfl rfl (by decide) (by decide) (by decide) rfl rfl rfl (pa_cons (pe_call (G_tables (P := P) T) (hr.mono (by decide)) (by rfl) T.g_tables T.F_tables.kp T.b_tables .nil pass0 (pa_cons (pe_callB (k_len K rfl) (by rfl) T.n_len (by decide +kernel) (pa_cons (pv 3) pa_nil)) (pa_cons (pe_op op_shlW pe_int (pe_op op_sub (pv 1) (pv 2))) (pa_cons (pv 5) pa_nil)))) (pa_cons pe_int (pa_cons (pv 5) pa_nil))) (by rfl))
  (pss_cons (ps_for PassesOwn.never rfl (k_piE K rfl (by rfl) T.n_enumerate (pa_cons (pv 4) pa_nil)) (k_pgT K rfl (by rfl) (pgs_cons (pg_name (i := 9) sc_number_of.nd rfl (by first | exact Or.inl rfl | exact Or.inr rfl)) (pgs_cons (pg_name (i := 10) sc_number_of.nd rfl (by first | exact Or.inl rfl | exact Or.inr rfl)) pgs_nil)))
    (pss_cons (ps_set (i := 11) sc_number_of.nd rfl (by first | exact Or.inl rfl | exact Or.inr rfl) (pe_op op_sub (pe_op op_sub (pe_callB (k_len K rfl) (by rfl) T.n_len (by decide +kernel) (pa_cons (pv 3) pa_nil)) pe_int) (pv 9)))
  (pss_cons (ps_par (by rfl) sc_number_of.nd (i := 13) (j := 14) rfl rfl (by decide) rfl rfl (pa_cons (pe_op op_shlW pe_int (pe_op op_mulX (pv 2) (pv 11))) (pa_cons (pe_op op_shr (pv 10) (pv 2)) pa_nil)) (by rfl))
  (pss_cons (ps_for PassesOwn.never rfl (pi_range1 (by rfl) T.n_range (pa_cons (pv 14) pa_nil)) (pg_name (i := 12) sc_number_of.nd rfl (by first | exact Or.inl rfl | exact Or.inr rfl))
    (pss_one (ps_set (i := 7) sc_number_of.nd rfl (by first | exact Or.inl rfl | exact Or.inr rfl) (pe_op op_add (pv 7) (pe_op op_mulX (pe_op op_mulX (pv 13) (pe_op op_shlW pe_int (pv 2))) (pe_ix (k_ixL K rfl) (pe_ix (k_ixL K rfl) (pv 6) (pv 11) (fun _ _ => rfl)) (pe_op op_sub (pv 8) (pv 12)) (fun _ _ => rfl)))))))
  (pss_cons (ps_set (i := 8) sc_number_of.nd rfl (by first | exact Or.inl rfl | exact Or.inr rfl) (pe_op op_sub (pv 8) (pv 14)))
  (pss_one (ps_set (i := 7) sc_number_of.nd rfl (by first | exact Or.inl rfl | exact Or.inr rfl) (pe_op op_add (pv 7) (pe_op op_mulX (pe_op op_mulX (pv 13) (pe_ix (k_ixL K rfl) (pe_ix (k_ixL K rfl) (pv 6) (pv 11) (fun _ _ => rfl)) (pv 8) (fun _ _ => rfl))) (pe_op op_mod (pv 10) (pe_op op_shlW pe_int (pv 2))))))))))))
  (pss_one (ps_ret (pe_tup (pa_cons (pe_op op_add (pv 5) (pe_op op_mulX (pe_callB (k_len K rfl) (by rfl) T.n_len (by decide +kernel) (pa_cons (pv 3) pa_nil)) (pe_op op_add (pv 2) pe_int))) (pa_cons (pv 7) pa_nil))))))))))))), ?_⟩
  have hS : SqL K H a (row.map V.int) := .inl hA
  refine ⟨_, rfl, x, ws, sh, rfl, hG, ?_⟩
  refine ⟨_, rfl, (d : Int), 24, rfl, by omega, by omega, ?_⟩
  refine ⟨_, rfl, _, rfl, _, _, rfl, by omega, by omega, ?_⟩
  refine ⟨_, rfl, _, rfl, a, row, d, rfl, hA, hs, by omega, h0, by omega, fun H1 s1 => ?_⟩
  refine ⟨_, rfl, iteF ?_⟩
  refine ⟨_, rfl, a, _, rfl, .inl (s1.seq hS), _, _, rfl, rfl, _, rfl, ?_⟩
  rw [List.length_map, decide_eq_false (show ¬ (row.length : Int) > 200 by omega)]
  refine iteF ?_
  refine ⟨_, rfl, _, rfl, _, rfl, x, a, ws, sh, row, d, rfl, hG.same s1, Rd.same hA s1, by omega, hs, h0, by omega, fun H2 p2 s2 np2 hp2 => ?_⟩
  have hP : SqL K H2 p2 ((restsF ws sh d row).map V.int) := .inl (.inl hp2)
  have hrl : (restsF ws sh d row).length = row.length := by rw [restsF_go, rests_len]
  refine ⟨p2, rfl, ⟨_, hP⟩, fun D nD => ?_⟩
  refine lc_mapL (K := K) (xs := (restsF ws sh d row).map V.int) ((intsN (foldsF ws sh d row)).map V.int) nD hP (by rw [List.length_map, intsN_len, List.length_map, folds_len, hrl]) (by rw [List.length_map, hrl]; exact small1000 (by omega)) (fun x => rfl) ?_ ?_
  · intro i x y H' hx hy s Qt qt
    obtain ⟨n, hn, rfl⟩ := int_at hx
    obtain ⟨m, hm, rfl⟩ := intsN_at hy
    unfold foldsF at hm
    rw [List.getElem?_map, hn] at hm
    cases hm
    exact ⟨_, rfl, n, rfl, qt _ (Same.refl _)⟩
  intro H3 s3 hD
  have hfl := folds_len ws sh d row
  have hflt := folds_lt ws sh row h0
  rw [width_split h2] at hflt
  generalize foldsF ws sh d row = fs at q hD hfl hflt
  have hD3 : SqL K H3 D ((intsN fs).map V.int) := .inl (.inl hD)
  refine ⟨_, rfl, D, rfl, ⟨_, hD3⟩, fun D2 nD2 => ?_⟩
  refine lc_mapL (K := K) (xs := (intsN fs).map V.int) ((intsN (fs.map fun f => f / 2 ^ i)).map V.int) nD2 hD3 (by rw [List.length_map, intsN_len, List.length_map, List.length_map, intsN_len]) (by rw [List.length_map, intsN_len]; exact small1000 (by omega)) (fun x => rfl) ?_ ?_
  · intro j x y H' hx hy s Qt qt
    obtain ⟨n, hn, rfl⟩ := intsN_at hx
    obtain ⟨m, hm, rfl⟩ := intsN_at hy
    rw [List.getElem?_map, hn] at hm
    cases hm
    refine ⟨_, rfl, _, rfl, _, _, rfl, rfl, Int.natCast_nonneg _, ?_⟩
    dsimp only
    rw [Int.toNat_natCast, divN_cast]
    exact qt _ (Same.refl _)
  intro H4 s4 hD2
  refine ⟨D2, _, rfl, .inl (.inl hD2), ?_⟩
  rw [sum_cast, show (fs.map fun f => f / 2 ^ i).sum = totF i fs from rfl]
  have s14 := ((s1.trans s2).trans s3).trans s4
  have htot := tot_le hflt
  have h8 := pow_le8 hr4
  have hb0 : 0 < 2 ^ (d - i) := Nat.two_pow_pos _
  have htb : totF i fs ≤ 13 * (2 ^ (d - i) - 1) := Nat.le_trans htot (Nat.mul_le_mul_right _ (by omega))
  have ht91 : totF i fs ≤ 91 := by omega
  refine ⟨_, rfl, a, _, rfl, .inl (s14.seq hS), ?_⟩
  refine ⟨_, rfl, _, rfl, _, _, rfl, rfl, _, _, rfl, rfl, shl1 (by omega) (by omega), _, rfl, row.length, 2 ^ (d - i), totF i fs, ?_, by omega, by omega, by omega, fun H5 pk s5 npk hT => ?_⟩
  · show [V.int _, V.int (1 * 2 ^ ((d : Int) - (i : Int)).toNat), V.int _] = _
    rw [one_shl (sub_toNat h2), List.length_map]
  refine ⟨_, rfl, _, _, _, rfl, ?_⟩
  have hD5 := s5 _ _ (s4 _ _ hD)
  have hS5 : SqL K H5 D ((intsN fs).map V.int) := .inl (.inl hD5)
  refine ⟨_, rfl, D, _, rfl, hS5, ?_⟩
  refine for_it (walk_enum (K := K) (a := D) (xs := (intsN fs).map V.int)) (fun j σ H6 => ∃ (z : Nat) (v9 v10 v11 v12 v13 v14 : Option V), σ = [some (.ref x), some (.int d), some (.int i), some (.ref a), some (.ref D), some (.int (totF i fs : Nat)), some (.ref pk), some (.int z), some (.int (totF i (fs.drop j) : Nat)), v9, v10, v11, v12, v13, v14] ∧ Same H5 H6 ∧ z + numF i (2 ^ (d - i)) (fs.drop j) = numF i (2 ^ (d - i)) fs)
    ⟨0, none, none, none, none, none, none, rfl, Same.refl _, Nat.zero_add _⟩ (fun j σ H6 _ ⟨_, _, _, _, _, _, _, _, s, _⟩ => s.seq hS5) ?_ ?_
  · rintro j y σ H6 H7 hj ⟨z, v9, v10, v11, v12, v13, v14, rfl, s6, hz⟩ ⟨t, y2, z2, rfl, nt, rfl, ey, ez⟩
    cases ey
    obtain ⟨n, hn, rfl⟩ := intsN_at ez
    rw [List.length_map, intsN_len] at hj
    have s7 : Same H6 (upd H6 t (.tup [.int (j : Nat), .int n])) := same_upd nt
    refine ⟨t, _, rfl, .inl (.inl upd_same), rfl, _, _, rfl, _, _, rfl, rfl, ?_⟩
    generalize upd H6 t (.tup [.int (j : Nat), .int n]) = H7 at s7
    have s57 := s6.trans s7
    have hdrop : fs.drop j = n :: fs.drop (j + 1) := by
      obtain ⟨hj', e⟩ := List.getElem?_eq_some_iff.mp hn
      rw [List.drop_eq_getElem_cons hj', e]
    have hglen : (fs.drop (j + 1)).length = fs.length - (j + 1) := List.length_drop
    have hgtot : totF i (fs.drop j) ≤ totF i fs := by
      have e : totF i fs = totF i (fs.take j) + totF i (fs.drop j) := by
        conv => lhs; rw [← List.take_append_drop j fs]
        unfold totF
        rw [List.map_append, List.sum_append]
      omega
    rw [hdrop] at hz hgtot ⊢
    have hnlt := hflt n (List.mem_of_getElem? hn)
    have hTot := hT.same s57
    generalize fs.drop (j + 1) = g at hz hgtot hglen ⊢
    have hgl : (row.length : Int) - 1 - (j : Int) = (g.length : Int) := by omega
    refine ⟨_, rfl, a, _, rfl, .inl (((s14.trans s5).trans s57).seq hS), _, _, rfl, rfl, _, rfl, _, _, rfl, rfl, ?_⟩
    rw [List.length_map]
    dsimp only
    rw [hgl]
    have hig : i * g.length ≤ 24 * 13 := Nat.mul_le_mul (by omega) (by omega)
    have eig : (i : Int) * (g.length : Int) = ((i * g.length : Nat) : Int) := (Int.natCast_mul _ _).symm
    have ee : (1 : Int) * 2 ^ ((i : Int) * (g.length : Int)).toNat = ((2 ^ (i * g.length) : Nat) : Int) := by rw [eig, Int.toNat_natCast]; exact one_shl rfl
    have ei : (1 : Int) * 2 ^ ((i : Int)).toNat = ((2 ^ i : Nat) : Int) := by rw [Int.toNat_natCast]; exact one_shl rfl
    refine ⟨_, rfl, _, rfl, _, _, rfl, rfl, mulx_ok (a := 30) (b := 30) (abs_of (by omega) (by omega)) (abs_of (by omega) (by omega)) (by decide), _, _, rfl, rfl, shl1 (by rw [eig]; omega) (by rw [eig]; omega), ?_⟩
    refine ⟨_, rfl, _, rfl, _, _, rfl, rfl, Int.natCast_nonneg _, ?_⟩
    dsimp only
    rw [ee, Int.toNat_natCast, divN_cast]
    refine ⟨_, _, rfl, ?_⟩
    have hstr : n / 2 ^ i < 2 ^ (d - i) := (Nat.div_lt_iff_lt_mul (Nat.two_pow_pos i)).mpr hnlt
    have hbe : (2 : Nat) ^ (i * g.length) < 2 ^ 313 := Nat.pow_lt_pow_right (by decide) (by omega)
    have hbi : (2 : Nat) ^ i < 2 ^ 25 := Nat.pow_lt_pow_right (by decide) (by omega)
    have hsm : ∀ u, u ≤ totF i fs → tbl (2 ^ (d - i)) g.length u < 2 ^ 64 := fun u hu => tbl_small hr4 (by omega) (by omega)
    rw [tot_cons] at hgtot
    have hnum : numF i (2 ^ (d - i)) (n :: g) = stF i (2 ^ (d - i)) g.length (n / 2 ^ i + totF i g) (n / 2 ^ i) + cntF i (2 ^ (d - i)) g.length (totF i g) * (n % 2 ^ i) + numF i (2 ^ (d - i)) g := rfl
    have htc : totF i (n :: g) = n / 2 ^ i + totF i g := tot_cons i n g
    have hmod : n % 2 ^ i < 2 ^ 25 := Nat.lt_trans (Nat.mod_lt _ (Nat.two_pow_pos i)) hbi
    rw [htc]
    generalize n / 2 ^ i = st at hgtot hstr hnum htc ⊢
    refine ⟨_, rfl, _, rfl, by omega, by omega, ?_⟩
    rw [Int.toNat_natCast]
    refine for_range (lo := 0) (n := st) (fun e σ H8 => ∃ (y : Nat) (v12 : Option V), σ = [some (.ref x), some (.int d), some (.int i), some (.ref a), some (.ref D), some (.int (totF i fs : Nat)), some (.ref pk), some (.int y), some (.int ((st + totF i g : Nat) : Int)), some (.int (j : Nat)), some (.int n), some (.int (g.length : Nat)), v12, some (.int ((2 ^ (i * g.length) : Nat) : Int)), some (.int (st : Nat))] ∧ H8 = H7 ∧ y = z + stF i (2 ^ (d - i)) g.length (st + totF i g) e)
      ⟨z, _, rfl, rfl, rfl⟩ ?_ ?_
    · rintro e σ H8 he ⟨y, v12, rfl, rfl, hy⟩
      refine ⟨_, rfl, _, rfl, _, rfl, _, _, rfl, rfl, shl1 (by omega) (by omega), ?_⟩
      dsimp only
      rw [ei]
      refine ⟨_, _, rfl, rfl, mulN hbe hbi (by decide), ?_⟩
      refine ⟨_, rfl, _, rfl, hTot.row (k := g.length) (by omega) (.inl rfl) fun a1 ha1 => ?_⟩
      refine ⟨_, rfl, _, rfl, _, _, rfl, rfl, row_cell ha1 (j := st + totF i g - e) (by omega) (by omega) ?_⟩
      refine ⟨_, _, rfl, rfl, ?_, _, _, rfl, rfl, ?_⟩
      · rw [← Int.natCast_mul]
        exact mulN (mul_bd hbe hbi) (hsm _ (by omega)) (by decide)
      dsimp only
      refine ⟨y + 2 ^ (i * g.length) * 2 ^ i * tbl (2 ^ (d - i)) g.length (st + totF i g - e), some (.int (0 + (e : Int))), ?_, rfl, ?_⟩
      · rw [← Int.natCast_mul, ← Int.natCast_mul, ← Int.natCast_add]
        rfl
      · rw [hy, st_succ, if_pos (by omega)]
        unfold cntF
        rw [Nat.mul_comm (2 ^ (i * g.length)) (2 ^ i), Nat.mul_assoc]
        omega
    · rintro σ H8 ⟨y, v12, rfl, rfl, hy⟩
      refine ⟨_, rfl, _, rfl, _, _, rfl, rfl, ?_⟩
      refine ⟨_, rfl, _, rfl, _, rfl, _, rfl, hTot.row (k := g.length) (by omega) (.inl rfl) fun a1 ha1 => ?_⟩
      refine ⟨_, rfl, row_cell ha1 (j := totF i g) (by omega) (by omega) ?_⟩
      refine ⟨_, _, rfl, rfl, mulN hbe (hsm _ (by omega)) (by decide), ?_⟩
      refine ⟨_, rfl, _, rfl, _, _, rfl, rfl, shl1 (by omega) (by omega), ?_⟩
      dsimp only
      rw [ei]
      refine ⟨_, _, rfl, rfl, Int.natCast_pos.mpr (Nat.two_pow_pos i), ?_⟩
      dsimp only
      rw [← Int.natCast_emod, ← Int.natCast_mul]
      refine ⟨_, _, rfl, rfl, mulN (mul_bd hbe (hsm _ (by omega))) hmod (by decide), _, _, rfl, rfl, ?_⟩
      dsimp only
      rw [← Int.natCast_mul, ← Int.natCast_add]
      refine ⟨y + 2 ^ (i * g.length) * tbl (2 ^ (d - i)) g.length (totF i g) * (n % 2 ^ i), some (.int (j : Nat)), some (.int n), some (.int (g.length : Nat)), v12, some (.int ((2 ^ (i * g.length) : Nat) : Int)), some (.int (st : Nat)), ?_, s57, ?_⟩
      · rw [show ((st + totF i g : Nat) : Int) - (st : Int) = ((totF i g : Nat) : Int) by omega]
        rfl
      · rw [← hz, hnum, hy]
        unfold cntF
        omega
  · rintro σ H6 ⟨z, v9, v10, v11, v12, v13, v14, rfl, s6, hz⟩
    refine ⟨_, rfl, _, rfl, a, _, rfl, .inl (((s14.trans s5).trans s6).seq hS), ?_⟩
    rw [show (row.map V.int).length = row.length from List.length_map _]
    refine ⟨_, rfl, _, _, rfl, rfl, _, _, rfl, rfl, mulx_ok (a := 30) (b := 30) (abs_of (by omega) (by omega)) (abs_of (by omega) (by omega)) (by decide), _, _, rfl, rfl, _, rfl, (show 2 ≤ sizeLine by decide), fun pr npr => ?_⟩
    dsimp only
    have hz0 : z = numF i (2 ^ (d - i)) fs := by
      rw [List.length_map, intsN_len, List.drop_length] at hz
      exact hz
    have e1 : ((totF i fs : Nat) : Int) + (row.length : Int) * ((i : Int) + 1) = ((sizeN i fs : Nat) : Int) := by
      unfold sizeN
      rw [Int.natCast_add, Int.natCast_mul, hfl]
      rfl
    rw [e1, hz0]
    exact q _ pr (((s14.trans s5).trans s6).trans (same_upd npr)) upd_same
end
end My

namespace My
open PySem PySem.Spec PyProof.Rows L2 Pre
/-! ### the row with a number -/
theorem while_to {c : TT} {tb : TS} {D : Ends} {σ : L2.St} {H : Hp} (Ex : L2.St → Hp → Prop) (hx : ∀ σ H, Ex σ H → D.nx σ H) (h : (∀ σ H, Ex σ H → D.nx σ H) → tWhile c tb D σ H) : tWhile c tb D σ H := h hx
theorem tot_drop (i : Nat) (fs : List Nat) (j : Nat) : totF i (fs.drop j) ≤ totF i fs := by
  have e : totF i fs = totF i (fs.take j) + totF i (fs.drop j) := by
    conv => lhs; rw [← List.take_append_drop j fs]
    unfold totF
    rw [List.map_append, List.sum_append]
  omega
local macro_rules | `(tactic| walk_at "go") => `(tactic| repeat (first | (with_reducible first | refine iteT ?_ | refine iteF ?_ | refine iteNtt ?_ | refine iteNff ?_ | refine iteET (by omega) ?_ | refine iteEF (by omega) ?_ | refine iteENT (by omega) ?_ | refine iteENF (by omega) ?_ | refine iteDT (by omega) ?_ | refine iteDF (by omega) ?_ | refine iteNT (by omega) ?_ | refine iteNF (by omega) ?_) | refine ⟨_, rfl, ?_⟩ | refine ⟨_, _, rfl, rfl, ?_⟩ | refine ⟨_, _, rfl, ?_⟩ | refine ⟨rfl, ?_⟩ | refine .inl ⟨_, rfl, ?_⟩ | refine .inr ⟨_, rfl, ?_⟩))
local macro_rules | `(tactic| walk_at "b") => `(tactic| try dsimp (config := { proj := false, iota := false, eta := false, zeta := false }) only)
section
variable {P : Program} {w : World} {K : PySem.W.Frag} {mg : Str → Option Value} {base : Heap} [pf : Sup.PF P fileS]
def sp_row_at (C CE : Addr) : Sp := fun vs H Q E => ∃ (x : Addr) (ws : List Int) (sh d i m t : Nat) (s n : Int), vs = [.ref x, .int d, .int i, .int m, .int s, .int n] ∧ s = (t : Int) + (m : Int) * ((i : Int) + 1) ∧ GuesserAt C H x ws sh ∧ 1 ≤ d ∧ d ≤ 24 ∧ i ≤ d ∧ d - i < 4 ∧ m < 14 ∧ t ≤ m * (2 ^ (d - i) - 1) ∧ 0 ≤ n ∧
  ((∃ fs : List Nat, fs.length = m ∧ totF i fs = t ∧ (∀ f ∈ fs, f < 2 ^ (d - i) * 2 ^ i) ∧ n = ((numF i (2 ^ (d - i)) fs : Nat) : Int) ∧ ∀ H' p, Same H H' → H p = none → H' p = some (.lst ((backF ws sh d fs).map V.int)) → Q (.ref p) H') ∨
    (((cntF i (2 ^ (d - i)) m t : Nat) : Int) ≤ n ∧ ∀ H' dd, Same H H' → H' dd = none → E (.ref CE) (some dd) (upd H' dd (.xd [("value", .int n)]))))
theorem G_row_at (T : Top K mg) : FnOk P w K mg base (L2.CX P w) 7 T.f_row_at T.fd_row_at ["guesser", "depth", "width", "many", "size", "number"] (sp_row_at T.C_Guesser T.C_InvalidNumber) := by
  refine T.F_row_at.ok (CX := L2.CX P w) sc_row_at (fun vs H Q E h => by obtain ⟨x, ws, sh, d, i, m, t, z, n, rfl, _⟩ := h; rfl) (fun cdv A outer s H vs Q E hr h => ?_)
  obtain ⟨x, ws, sh, d, i, m, t, z, n, rfl, hz, hG, h0, h1, h2, hr4, hm, ht, hn, hc⟩ := h
  refine ⟨_, (pss_cons (ps_expr (pe_call (G_check_guesser (P := P) T) (hr.mono (by decide)) (by rfl) T.g_check_guesser T.F_check_guesser.kp T.b_check_guesser .nil pass0 (pa_cons (pv 0) pa_nil)))
  (pss_cons (ps_expr (pe_call (G_check_number (P := P) T) (hr.mono (by decide)) (by rfl) T.g_check_number T.F_check_number.kp T.b_check_number .nil (passes_call (takes_of rfl rfl rfl rfl) (fun _ _ _ _ h => h)) (pa_cons (pv 5) (pa_cons pe_int (pa_cons (pe_op op_sub (pe_call (G_how_many_checked (P := P) T) (hr.mono (by decide)) (by rfl) T.g_how_many_checked T.F_how_many_checked.kp T.b_how_many_checked .nil pass0 (pa_cons (pv 1) (pa_cons (pv 2) (pa_cons (pv 3) (pa_cons (pv 4) (pa_cons (pv 5) pa_nil)))))) pe_int) pa_nil)))))
  (pss_cons (ps_par (by rfl) sc_row_at.nd (i := 7) (j := 8) rfl rfl (by decide) rfl rfl (pa_cons (pe_op op_shlW pe_int (pe_op op_sub (pv 1) (pv 2))) (pa_cons (pe_op op_sub (pv 4) (pe_op op_mulX (pv 3) (pe_op op_add (pv 2) pe_int))) pa_nil)) (by rfl))
  (pss_cons (ps_par (by rfl) sc_row_at.nd (i := 9) (j := 10) rfl rfl (by decide) rfl rfl (pa_cons (pe_call (G_tables (P := P) T) (hr.mono (by decide)) (by rfl) T.g_tables T.F_tables.kp T.b_tables .nil pass0 (pa_cons (pv 3) (pa_cons (pv 7) (pa_cons (pv 8) pa_nil)))) (pa_cons (pe_lst pa_nil) pa_nil)) (by rfl))
  (pss_cons (ps_for (passes_of rfl) rfl (pi_range3 (by rfl) T.n_range (pa_cons (pe_op op_sub (pv 3) pe_int) (pa_cons (pe_un un_neg pe_int) (pa_cons (pe_un un_neg pe_int) pa_nil)))) (pg_name (i := 6) sc_row_at.nd rfl (by first | exact Or.inl rfl | exact Or.inr rfl))
    (pss_cons (ps_par (by rfl) sc_row_at.nd (i := 11) (j := 12) rfl rfl (by decide) rfl rfl (pa_cons (pe_op op_shlW pe_int (pe_op op_mulX (pv 2) (pv 6))) (pa_cons pe_int pa_nil)) (by rfl))
  (pss_cons (ps_while (passes_of rfl) (pt_cmpR op_ge (pv 5) (pe_op op_mulX (pe_op op_mulX (pv 11) (pe_op op_shlW pe_int (pv 2))) (pe_ix (k_ixL K rfl) (pe_ix (k_ixL K rfl) (pv 9) (pv 6) (fun _ _ => rfl)) (pe_op op_sub (pv 8) (pv 12)) (fun _ _ => rfl))) (nomark _))
    (pss_cons (ps_set (i := 5) sc_row_at.nd rfl (by first | exact Or.inl rfl | exact Or.inr rfl) (pe_op op_sub (pv 5) (pe_op op_mulX (pe_op op_mulX (pv 11) (pe_op op_shlW pe_int (pv 2))) (pe_ix (k_ixL K rfl) (pe_ix (k_ixL K rfl) (pv 9) (pv 6) (fun _ _ => rfl)) (pe_op op_sub (pv 8) (pv 12)) (fun _ _ => rfl)))))
  (pss_one (ps_set (i := 12) sc_row_at.nd rfl (by first | exact Or.inl rfl | exact Or.inr rfl) (pe_op op_add (pv 12) pe_int)))))
  (pss_cons (ps_set (i := 8) sc_row_at.nd rfl (by first | exact Or.inl rfl | exact Or.inr rfl) (pe_op op_sub (pv 8) (pv 12)))
  (pss_cons (ps_expr (pe_bm PySem.F.plainAttrs_list PySem.F.slot_list_append PySem.F.type_list_append mt_append (pv 10) (pa_cons (pe_op op_add (pe_op op_mulX (pv 12) (pe_op op_shlW pe_int (pv 2))) (pe_op op_fdivW (pv 5) (pe_op op_mulX (pv 11) (pe_ix (k_ixL K rfl) (pe_ix (k_ixL K rfl) (pv 9) (pv 6) (fun _ _ => rfl)) (pv 8) (fun _ _ => rfl))))) pa_nil)))
  (pss_one (ps_set (i := 5) sc_row_at.nd rfl (by first | exact Or.inl rfl | exact Or.inr rfl) (pe_op op_mod (pv 5) (pe_op op_mulX (pv 11) (pe_ix (k_ixL K rfl) (pe_ix (k_ixL K rfl) (pv 9) (pv 6) (fun _ _ => rfl)) (pv 8) (fun _ _ => rfl)))))))))))
  (pss_one (ps_ret (pe_call (G_row_of (P := P) T) (hr.mono (by decide)) (by rfl) T.g_row_of T.F_row_of.kp T.b_row_of .nil pass0 (pa_cons (pv 0) (pa_cons (pv 1) (pa_cons (pe_lc (own := [("fold", 13)]) (g := gName 13) (tt := tYes) (by rfl) sc_row_at.nd (k_piL K rfl (pv 10)) (blkOk_by (own := [("fold", 13)]) (N := N_row_at) (sc := defScope s_row_at) (by decide +kernel)) (fun _ _ _ _ _ => (pg_name (i := 13) sc_row_at.nd rfl (by first | exact Or.inl rfl | exact Or.inr rfl))) (fun _ _ _ _ _ => pts_nil) (fun _ _ _ _ _ => (pe_call (G_unfolded (P := P) T) (hr.mono (by decide)) (by rfl) T.g_unfolded T.F_unfolded.kp T.b_unfolded .nil pass0 (pa_cons (pv 13) pa_nil)))) pa_nil))))))))))), ?_⟩
  refine ⟨_, rfl, x, ws, sh, rfl, hG, ?_⟩
  refine ⟨_, rfl, _, rfl, _, rfl, _, rfl, _, rfl, _, rfl, d, i, m, t, z, n, rfl, hz, h0, h1, h2, hr4, hm, ht, hn, ?_⟩
  refine ⟨_, _, rfl, rfl, n, 0, some (((cntF i (2 ^ (d - i)) m t : Nat) : Int) - 1), rfl, ?_⟩
  rcases hc with ⟨fs, hfl, hft, hflt, rfl, q⟩ | ⟨hge, q⟩
  · have hlt := num_lt hflt
    rw [hfl, hft] at hlt
    refine .inl ⟨⟨hn, fun j h => by cases h; omega⟩, ?_⟩
    have hmi : (0 : Int) ≤ (m : Int) * ((i : Int) + 1) := Int.mul_nonneg (by omega) (by omega)
    have hb0 : 0 < 2 ^ (d - i) := Nat.two_pow_pos _
    have h8 := pow_le8 hr4
    have ht91 := tot_bound hr4 hm ht
    have htb : t ≤ 13 * (2 ^ (d - i) - 1) := Nat.le_trans ht (Nat.mul_le_mul_right _ (by omega))
    have hbi : (2 : Nat) ^ i < 2 ^ 25 := Nat.pow_lt_pow_right (by decide) (by omega)
    have ei : (1 : Int) * 2 ^ ((i : Int)).toNat = ((2 ^ i : Nat) : Int) := by rw [Int.toNat_natCast]; exact one_shl rfl
    refine ⟨_, rfl, _, rfl, _, _, rfl, rfl, _, _, rfl, rfl, shl1 (by omega) (by omega), _, rfl, _, rfl, _, rfl, _, _, rfl, rfl, _, _, rfl, rfl, mulx_ok (a := 30) (b := 30) (abs_of (by omega) (by omega)) (abs_of (by omega) (by omega)) (by decide), _, _, rfl, rfl, ?_⟩
    dsimp only
    rw [one_shl (sub_toNat h2), show z - (m : Int) * ((i : Int) + 1) = (t : Int) by omega]
    refine ⟨_, _, rfl, ?_⟩
    refine ⟨_, rfl, _, rfl, _, rfl, m, 2 ^ (d - i), t, rfl, by omega, by omega, by omega, fun H1 pk s1 npk hT => ?_⟩
    refine ⟨Nat.zero_le _, fun pf npf => ?_⟩
    obtain ⟨H2, e2, s2, h2f⟩ := fresh (.lst []) npf
    rw [e2]
    have nHf : H pf = none := s1.free npf
    refine ⟨_, _, rfl, ?_⟩
    refine ⟨_, rfl, _, _, rfl, rfl, _, rfl, _, rfl, _, _, _, _, rfl, RgC.neg (by omega) (by omega) (by decide) (by decide), ?_⟩
    rw [show ((m : Int) - 1 - -1).toNat = m by omega]
    refine for_it walk_rangeC (fun j σ H3 => ∃ v6 v11 v12 : Option V, σ = [some (.ref x), some (.int d), some (.int i), some (.int m), some (.int z), some (.int (numF i (2 ^ (d - i)) (fs.drop j) : Nat)), v6, some (.int ((2 ^ (d - i) : Nat) : Int)), some (.int (totF i (fs.drop j) : Nat)), some (.ref pk), some (.ref pf), v11, v12, none] ∧ Same H1 H3 ∧ H3 pf = some (.lst ((intsN (fs.take j)).map V.int)))
      ⟨none, none, none, ?_, s2, h2f⟩ (fun _ _ _ _ _ => trivial) ?_ ?_
    · show [some (V.ref x), some (.int d), some (.int i), some (.int m), some (.int z), some (.int (numF i (2 ^ (d - i)) fs : Nat)), none, some (.int ((2 ^ (d - i) : Nat) : Int)), some (.int (t : Nat)), some (.ref pk), some (.ref pf), none, none, none] = _
      rw [← hft]
      rfl
    · rintro j y σ H3 H4 hj ⟨v6, v11, v12, rfl, s13, hf3⟩ ⟨rfl, rfl⟩
      have hT3 := hT.same s13
      obtain ⟨f, hf⟩ : ∃ f, fs[j]? = some f := ⟨_, List.getElem?_eq_getElem (by omega)⟩
      have hdrop : fs.drop j = f :: fs.drop (j + 1) := by
        obtain ⟨hj', e⟩ := List.getElem?_eq_some_iff.mp hf
        rw [List.drop_eq_getElem_cons hj', e]
      have hglen : (fs.drop (j + 1)).length = fs.length - (j + 1) := List.length_drop
      have hgtot := tot_drop i fs j
      have hglt : ∀ v ∈ fs.drop (j + 1), v < 2 ^ (d - i) * 2 ^ i := fun v hv => hflt v (List.mem_of_mem_drop hv)
      have hnlt := hflt f (List.mem_of_getElem? hf)
      have htake : fs.take (j + 1) = fs.take j ++ [f] := by rw [List.take_add_one, hf]; rfl
      have htl : (fs.take j).length = j := by rw [List.length_take]; omega
      rw [hdrop] at hgtot ⊢
      rw [htake]
      generalize fs.drop (j + 1) = g at hgtot hglen hglt ⊢
      have hgl : (m : Int) - 1 + (j : Int) * -1 = (g.length : Int) := by omega
      rw [show (fun i : Nat => V.int ((m : Int) - 1 + (i : Int) * -1)) j = V.int (g.length : Nat) from congrArg V.int hgl]
      have hig : i * g.length ≤ 24 * 13 := Nat.mul_le_mul (by omega) (by omega)
      have eig : (i : Int) * (g.length : Int) = ((i * g.length : Nat) : Int) := (Int.natCast_mul _ _).symm
      have ee : (1 : Int) * 2 ^ ((i : Int) * (g.length : Int)).toNat = ((2 ^ (i * g.length) : Nat) : Int) := by rw [eig, Int.toNat_natCast]; exact one_shl rfl
      refine ⟨_, rfl, _, rfl, _, _, rfl, rfl, mulx_ok (a := 30) (b := 30) (abs_of (by omega) (by omega)) (abs_of (by omega) (by omega)) (by decide), _, _, rfl, rfl, shl1 (by rw [eig]; omega) (by rw [eig]; omega), ?_⟩
      dsimp only
      rw [ee]
      refine ⟨_, _, rfl, ?_⟩
      have hstr : f / 2 ^ i < 2 ^ (d - i) := (Nat.div_lt_iff_lt_mul (Nat.two_pow_pos i)).mpr hnlt
      have hbe : (2 : Nat) ^ (i * g.length) < 2 ^ 313 := Nat.pow_lt_pow_right (by decide) (by omega)
      have hsm : ∀ u, u ≤ t → tbl (2 ^ (d - i)) g.length u < 2 ^ 64 := fun u hu => tbl_small hr4 (by omega) (by omega)
      have hnum : numF i (2 ^ (d - i)) (f :: g) = stF i (2 ^ (d - i)) g.length (f / 2 ^ i + totF i g) (f / 2 ^ i) + cntF i (2 ^ (d - i)) g.length (totF i g) * (f % 2 ^ i) + numF i (2 ^ (d - i)) g := rfl
      have htc : totF i (f :: g) = f / 2 ^ i + totF i g := tot_cons i f g
      have hmod : f % 2 ^ i < 2 ^ i := Nat.mod_lt _ (Nat.two_pow_pos i)
      have hdm : 2 ^ i * (f / 2 ^ i) + f % 2 ^ i = f := Nat.div_add_mod f (2 ^ i)
      have hgn := num_lt hglt
      rw [htc] at hgtot ⊢
      generalize f / 2 ^ i = st at hgtot hstr hnum htc hdm ⊢
      generalize f % 2 ^ i = lo at hnum hmod hdm
      -- the strokes
      refine while_to (fun σ H5 => ∃ y : Nat, σ = [some (.ref x), some (.int d), some (.int i), some (.int m), some (.int z), some (.int (y : Nat)), some (.int (g.length : Nat)), some (.int ((2 ^ (d - i) : Nat) : Int)), some (.int ((st + totF i g : Nat) : Int)), some (.ref pk), some (.ref pf), some (.int ((2 ^ (i * g.length) : Nat) : Int)), some (.int (st : Nat)), none] ∧ H5 = H4 ∧ y = cntF i (2 ^ (d - i)) g.length (totF i g) * lo + numF i (2 ^ (d - i)) g) ?_ ?_
      · rintro σ H5 ⟨y, rfl, rfl, hy⟩
        refine ⟨_, rfl, _, rfl, _, _, rfl, rfl, ?_⟩
        dsimp only
        rw [show ((st + totF i g : Nat) : Int) - (st : Int) = ((totF i g : Nat) : Int) by omega]
        have hc0 : 0 < cntF i (2 ^ (d - i)) g.length (totF i g) := by omega
        have hcs : cntF i (2 ^ (d - i)) g.length (totF i g) < 2 ^ (313 + 64) := mul_bd hbe (hsm _ (by omega))
        have hq1 : y / cntF i (2 ^ (d - i)) g.length (totF i g) = lo := by
          rw [hy, Nat.mul_add_div hc0, Nat.div_eq_of_lt hgn, Nat.add_zero]
        have hq2 : y % cntF i (2 ^ (d - i)) g.length (totF i g) = numF i (2 ^ (d - i)) g := by
          rw [hy, Nat.mul_add_mod, Nat.mod_eq_of_lt hgn]
        refine ⟨_, rfl, .inl ⟨rfl, _, .inl (.inl hf3)⟩, ?_⟩
        refine ⟨_, rfl, _, rfl, _, _, rfl, rfl, shl1 (by omega) (by omega), ?_⟩
        dsimp only
        rw [ei]
        refine ⟨_, _, rfl, rfl, mulN (y := 25) (x := 4) (by omega) hbi (by decide), ?_⟩
        refine ⟨_, rfl, _, rfl, _, rfl, _, rfl, hT3.row (k := g.length) (by omega) (.inl rfl) fun a1 ha1 => ?_⟩
        refine ⟨_, rfl, row_cell ha1 (j := totF i g) (by omega) (by omega) ?_⟩
        refine ⟨_, _, rfl, rfl, mulN hbe (hsm _ (by omega)) (by decide), ?_⟩
        dsimp only
        rw [← Int.natCast_mul, show 2 ^ (i * g.length) * tbl (2 ^ (d - i)) g.length (totF i g) = cntF i (2 ^ (d - i)) g.length (totF i g) from rfl]
        refine ⟨_, _, rfl, rfl, wide_div (Int.natCast_pos.mpr hc0) (abs_nat hcs) (by decide) (by decide), ?_⟩
        dsimp only
        rw [← Int.natCast_ediv, hq1, ← Int.natCast_mul]
        refine ⟨_, _, rfl, rfl, ?_⟩
        dsimp only
        rw [← Int.natCast_add, show st * 2 ^ i + lo = f by rw [Nat.mul_comm]; exact hdm]
        refine ⟨pf, _, _, rfl, rfl, hf3, by rw [List.length_map, intsN_len, htl]; exact small1000 (by omega), ?_⟩
        have s16 : Same H1 (upd H5 pf (.lst ((intsN (fs.take j)).map V.int ++ [V.int ((f : Nat) : Int)]))) := same_over npf s13
        have hT6 := hT.same s16
        refine ⟨_, rfl, _, rfl, _, rfl, _, rfl, hT6.row (k := g.length) (by omega) (.inl rfl) fun a3 ha3 => ?_⟩
        refine ⟨_, rfl, row_cell ha3 (j := totF i g) (by omega) (by omega) ?_⟩
        refine ⟨_, _, rfl, rfl, mulN hbe (hsm _ (by omega)) (by decide), ?_⟩
        dsimp only
        rw [← Int.natCast_mul, show 2 ^ (i * g.length) * tbl (2 ^ (d - i)) g.length (totF i g) = cntF i (2 ^ (d - i)) g.length (totF i g) from rfl]
        refine ⟨_, _, rfl, rfl, Int.natCast_pos.mpr hc0, ?_⟩
        dsimp only
        rw [← Int.natCast_emod, hq2]
        refine ⟨some (.int (g.length : Nat)), some (.int ((2 ^ (i * g.length) : Nat) : Int)), some (.int (st : Nat)), rfl, s16, ?_⟩
        rw [upd_same]
        unfold intsN
        rw [List.map_append, List.map_append]
        rfl
      · intro hx
        refine ⟨fun k σ H5 => ∃ (e y : Nat), σ = [some (.ref x), some (.int d), some (.int i), some (.int m), some (.int z), some (.int (y : Nat)), some (.int (g.length : Nat)), some (.int ((2 ^ (d - i) : Nat) : Int)), some (.int ((st + totF i g : Nat) : Int)), some (.ref pk), some (.ref pf), some (.int ((2 ^ (i * g.length) : Nat) : Int)), some (.int (e : Nat)), none] ∧ H5 = H4 ∧ e ≤ st ∧ k = st - e ∧ y + stF i (2 ^ (d - i)) g.length (st + totF i g) e = numF i (2 ^ (d - i)) (f :: g), ⟨st, 0, _, rfl, rfl, Nat.zero_le _, rfl, Nat.add_zero _⟩, ?_⟩
        rintro k σ H5 ⟨e, y, rfl, rfl, he, rfl, hy⟩
        refine ⟨_, rfl, _, rfl, _, rfl, _, _, rfl, rfl, shl1 (by omega) (by omega), ?_⟩
        dsimp only
        rw [ei]
        refine ⟨_, _, rfl, rfl, mulN hbe hbi (by decide), ?_⟩
        refine ⟨_, rfl, _, rfl, hT3.row (k := g.length) (by omega) (.inl rfl) fun a1 ha1 => ?_⟩
        refine ⟨_, rfl, _, rfl, _, _, rfl, rfl, row_cell ha1 (j := st + totF i g - e) (by omega) (by omega) ?_⟩
        refine ⟨_, _, rfl, rfl, ?_, _, _, rfl, rfl, _, rfl, ?_⟩
        · rw [← Int.natCast_mul]
          exact mulN (mul_bd hbe hbi) (hsm _ (by omega)) (by decide)
        have hpr : 2 ^ (i * g.length) * 2 ^ i * tbl (2 ^ (d - i)) g.length (st + totF i g - e) = 2 ^ i * cntF i (2 ^ (d - i)) g.length (st + totF i g - e) := by
          unfold cntF
          rw [Nat.mul_comm (2 ^ (i * g.length)) (2 ^ i), Nat.mul_assoc]
        rw [← Int.natCast_mul, ← Int.natCast_mul, hpr]
        have hst1 := st_succ i (2 ^ (d - i)) g.length (st + totF i g) e
        rw [if_pos (by omega)] at hst1
        by_cases c : e < st
        · have hm1 := st_mono i (2 ^ (d - i)) g.length (st + totF i g) (show e + 1 ≤ st from c)
          have hge : 2 ^ i * cntF i (2 ^ (d - i)) g.length (st + totF i g - e) ≤ y := by omega
          rw [decide_eq_true (show ((y : Nat) : Int) ≥ ((2 ^ i * cntF i (2 ^ (d - i)) g.length (st + totF i g - e) : Nat) : Int) from Int.ofNat_le.mpr hge), if_pos rfl]
          refine ⟨fun σ H6 => ∃ (y : Nat), σ = [some (.ref x), some (.int d), some (.int i), some (.int m), some (.int z), some (.int (y : Nat)), some (.int (g.length : Nat)), some (.int ((2 ^ (d - i) : Nat) : Int)), some (.int ((st + totF i g : Nat) : Int)), some (.ref pk), some (.ref pf), some (.int ((2 ^ (i * g.length) : Nat) : Int)), some (.int ((e + 1 : Nat) : Int)), none] ∧ H6 = H5 ∧ y + stF i (2 ^ (d - i)) g.length (st + totF i g) (e + 1) = numF i (2 ^ (d - i)) (f :: g), ?_, ?_⟩
          · rintro σ' H' ⟨y', rfl, rfl, hy'⟩
            exact ⟨st - (e + 1), by omega, e + 1, y', rfl, rfl, c, rfl, hy'⟩
          refine ⟨_, rfl, _, rfl, _, rfl, _, _, rfl, rfl, shl1 (by omega) (by omega), ?_⟩
          dsimp only
          rw [ei]
          refine ⟨_, _, rfl, rfl, mulN hbe hbi (by decide), ?_⟩
          refine ⟨_, rfl, _, rfl, hT3.row (k := g.length) (by omega) (.inl rfl) fun a2 ha2 => ?_⟩
          refine ⟨_, rfl, _, rfl, _, _, rfl, rfl, row_cell ha2 (j := st + totF i g - e) (by omega) (by omega) ?_⟩
          refine ⟨_, _, rfl, rfl, ?_, _, _, rfl, rfl, ?_⟩
          · rw [← Int.natCast_mul]
            exact mulN (mul_bd hbe hbi) (hsm _ (by omega)) (by decide)
          dsimp only
          rw [← Int.natCast_mul, ← Int.natCast_mul, hpr, ← Int.natCast_sub hge]
          refine ⟨_, rfl, _, _, rfl, rfl, y - 2 ^ i * cntF i (2 ^ (d - i)) g.length (st + totF i g - e), rfl, rfl, by omega⟩
        · have ee2 : e = st := by omega
          subst ee2
          have hlt2 : y < 2 ^ i * cntF i (2 ^ (d - i)) g.length (e + totF i g - e) := by
            rw [Nat.add_sub_cancel_left]
            have : cntF i (2 ^ (d - i)) g.length (totF i g) * (lo + 1) ≤ cntF i (2 ^ (d - i)) g.length (totF i g) * 2 ^ i := Nat.mul_le_mul_left _ hmod
            rw [Nat.mul_add, Nat.mul_one, Nat.mul_comm _ (2 ^ i)] at this
            omega
          rw [decide_eq_false (show ¬ ((y : Nat) : Int) ≥ ((2 ^ i * cntF i (2 ^ (d - i)) g.length (e + totF i g - e) : Nat) : Int) from fun z => by have := Int.ofNat_le.mp z; omega), if_neg Bool.false_ne_true]
          exact hx _ _ ⟨y, rfl, rfl, by omega⟩
    · rintro σ H3 ⟨v6, v11, v12, rfl, s13, hf3⟩
      have s3 := s1.trans s13
      rw [← hfl, List.take_length] at hf3
      have hS3 : SqL K H3 pf ((intsN fs).map V.int) := .inl (.inl hf3)
      refine ⟨_, rfl, _, rfl, _, rfl, pf, rfl, ⟨_, hS3⟩, fun D nD => ?_⟩
      refine lc_mapL (K := K) (xs := (intsN fs).map V.int) ((fs.map unfoldI).map V.int) nD hS3 (by rw [List.length_map, List.length_map, List.length_map, intsN_len]) (by rw [List.length_map, intsN_len]; exact small1000 (by omega)) (fun x => rfl) ?_ ?_
      · intro j x y H' hx hy s Qt qt
        obtain ⟨n, hn, rfl⟩ := intsN_at hx
        rw [List.getElem?_map, List.getElem?_map, hn] at hy
        cases hy
        exact ⟨_, rfl, n, rfl, qt _ (Same.refl _)⟩
      · intro H4 s4 hD
        refine ⟨x, D, ws, sh, fs.map unfoldI, d, rfl, hG.same (s3.trans s4), .inl hD, by rw [List.length_map]; omega, unfolds_samples h0 (by rw [width_split h2]; exact hflt), h0, by omega, fun H5 p5 s5 np5 hp5 => ?_⟩
        exact q _ p5 ((s3.trans s4).trans s5) ((s3.trans s4).free np5) hp5
  · refine .inr ⟨fun z => ?_, fun dd nd => q _ dd (Same.refl _) nd⟩
    have := z.2 _ rfl
    omega
end
end My

namespace My
open PySem PySem.Spec PyProof.Rows L2 Pre
/-! ### numbers beyond: refused -/
local macro_rules | `(tactic| walk_at "go") => `(tactic| repeat (first | (with_reducible first | refine iteT ?_ | refine iteF ?_ | refine iteNtt ?_ | refine iteNff ?_ | refine iteET (by omega) ?_ | refine iteEF (by omega) ?_ | refine iteENT (by omega) ?_ | refine iteENF (by omega) ?_ | refine iteDT (by omega) ?_ | refine iteDF (by omega) ?_ | refine iteNT (by omega) ?_ | refine iteNF (by omega) ?_) | refine ⟨_, rfl, ?_⟩ | refine ⟨_, _, rfl, rfl, ?_⟩ | refine ⟨_, _, rfl, ?_⟩ | refine ⟨rfl, ?_⟩ | refine .inl ⟨_, rfl, ?_⟩ | refine .inr ⟨_, rfl, ?_⟩))
local macro_rules | `(tactic| walk_at "b") => `(tactic| try dsimp (config := { proj := false, iota := false, eta := false, zeta := false }) only)
section
variable {P : Program} {w : World} {K : PySem.W.Frag} {mg : Str → Option Value} {base : Heap} [pf : Sup.PF P fileS]
def sp_law_refused (C : Addr) : Sp := fun vs H Q _ => ∃ (x : Addr) (ws : List Int) (sh d i m t : Nat) (s n : Int), vs = [.ref x, .int d, .int i, .int m, .int s, .int n] ∧ s = (t : Int) + (m : Int) * ((i : Int) + 1) ∧ GuesserAt C H x ws sh ∧ 1 ≤ d ∧ d ≤ 24 ∧ i ≤ d ∧ d - i < 4 ∧ m < 14 ∧ t ≤ m * (2 ^ (d - i) - 1) ∧ 0 ≤ n ∧
  ((cntF i (2 ^ (d - i)) m t : Nat) : Int) ≤ n ∧ n.natAbs < 10 ^ 90 ∧ ∀ H', Same H H' → Q (.bl true) H'
theorem G_law_refused (T : Top K mg) : FnG P w K mg base CX0 8 T.f_law_refused T.fd_law_refused ["_law_guesser", "_law_depth", "_law_width", "_law_many", "_law_size_here", "_law_number"] (sp_law_refused T.C_Guesser) := by
  refine FnG.body T.F_law_refused sc_law_refused (fun vs H Q E h => by obtain ⟨x, ws, sh, d, i, m, t, z, n, rfl, _⟩ := h; rfl) (fun cdv A outer s H vs Q E gd hr h => ?_)
  obtain ⟨x, ws, sh, d, i, m, t, z, n, rfl, hz, hG, h0, h1, h2, hr4, hm, ht, hn, hge, hn90, q⟩ := h
  refine ⟨_, PSs.nox (pss_cons (ps_set (i := 6) sc_law_refused.nd rfl (by first | exact Or.inl rfl | exact Or.inr rfl) pe_non)
  (pss_cons (ps_try_keep (i := 7) rfl rfl rfl sc_law_refused.nd rfl rfl takes_none5 (fun W pn xe tk po => (pss_one (ps_expr (pe_callS (G_row_at (P := P) T) (hr.mono (by decide)) (by rfl) T.g_row_at T.F_row_at.kp T.b_row_at (fun σ => passAt tk σ) (pa_cons (pv 0) (pa_cons (pv 1) (pa_cons (pv 2) (pa_cons (pv 3) (pa_cons (pv 4) (pa_cons (pv 5) pa_nil))))))))))
    (HdsAs.cons ⟨by rfl, by decide, .inl T.gc_SoundError⟩ (fun a oe cls d pn hz hf => (pss_one (ps_set (i := 6) sc_law_refused.nd rfl (by first | exact Or.inl rfl | exact Or.inr rfl) (pv 7)))) HdsAs.nil))
  (pss_one (ps_ret (pe_and (pe_cmpR op_notN (pv 6) pe_non (nomark _)) (pe_and (pe_callB (k_isiE K rfl) (by rfl) T.n_isinstance (by decide +kernel) (pa_cons (pv 6) (pa_cons (pe_glob (v := .ref T.C_InvalidNumber) rfl T.gc_InvalidNumber rfl) pa_nil))) (pe_one (pe_cmpR op_eq (pe_callB (k_repr K rfl gd (hu65 hr)) (by rfl) T.n_repr (by decide +kernel) (pa_cons (pe_xfK (pv 6)) pa_nil)) (pe_callB (k_repr K rfl gd (hu65 hr)) (by rfl) T.n_repr (by decide +kernel) (pa_cons (pv 5) pa_nil)) (nomark _))))))))), ?_⟩
  refine ⟨_, rfl, _, rfl, _, rfl, _, rfl, _, rfl, _, rfl, x, ws, sh, d, i, m, t, z, n, rfl, hz, hG, h0, h1, h2, hr4, hm, ht, hn, .inr ⟨hge, fun H1 dd s1 nd => ?_⟩⟩
  refine ⟨true, T.em_InvalidNumber_SoundError, fun _ ae nae => ?_, fun z => nomatch z⟩
  have hdd : upd (upd H1 dd (.xd [(Str.ofString "value", .int n)])) ae (ExK (.ref T.C_InvalidNumber) (some dd) ae) dd = some (.xd [(Str.ofString "value", .int n)]) := by
    rw [upd_ne (ne_of_none upd_same nae), upd_same]
  have hae : upd (upd H1 dd (.xd [(Str.ofString "value", .int n)])) ae (ExK (.ref T.C_InvalidNumber) (some dd) ae) ae = some (ExK (.ref T.C_InvalidNumber) (some dd) ae) := upd_same
  have s2 := (s1.trans (same_upd (o := .xd [(Str.ofString "value", .int n)]) nd)).trans (same_upd (o := ExK (.ref T.C_InvalidNumber) (some dd) ae) nae)
  have hsh : (PyData.int n).showable = true := show_int (Nat.lt_trans hn90 (by decide +kernel))
  have hsp : SeqAt.shaped (.int n) = true := rfl
  have hln : (PyData.shown (.int n)).length ≤ sizeLine := Nat.le_trans (shown_int (k := 90) (by decide) hn90) (by rw [sizeLine_eq]; decide)
  refine ⟨_, rfl, _, rfl, rfl, _, rfl, ?_⟩
  rw [decide_eq_false (fun z : V.ref ae = V.non => nomatch z)]
  refine iteT ?_
  refine ⟨_, rfl, .inr ⟨ae, _, dd, _, _, _, _, rfl, hae, hdd, T.ei_InvalidNumber, .own _, T.ki_InvalidNumber_InvalidNumber, ?_⟩⟩
  refine ⟨_, rfl, iteT ?_⟩
  refine ⟨_, rfl, ae, _, dd, _, .int n, rfl, hae, hdd, T.er_InvalidNumber.xf, T.er_InvalidNumber.sup.nov, rfl, .int n, .int n, rfl, .int n, hsh, hsp, hln, ?_⟩
  refine ⟨_, rfl, .int n, .int n, rfl, .int n, hsh, hsp, hln, ?_⟩
  refine ⟨rfl, ?_⟩
  rw [decide_eq_true rfl]
  exact q _ s2
end
end My

namespace My
open PySem PySem.Spec PyProof.Rows L2 Pre
/-! ### a longer row -/
local macro_rules | `(tactic| walk_at "go") => `(tactic| repeat (first | (with_reducible first | refine iteT ?_ | refine iteF ?_ | refine iteNtt ?_ | refine iteNff ?_ | refine iteET (by omega) ?_ | refine iteEF (by omega) ?_ | refine iteENT (by omega) ?_ | refine iteENF (by omega) ?_ | refine iteDT (by omega) ?_ | refine iteDF (by omega) ?_ | refine iteNT (by omega) ?_ | refine iteNF (by omega) ?_) | refine ⟨_, rfl, ?_⟩ | refine ⟨_, _, rfl, rfl, ?_⟩ | refine ⟨_, _, rfl, ?_⟩ | refine ⟨rfl, ?_⟩ | refine .inl ⟨_, rfl, ?_⟩ | refine .inr ⟨_, rfl, ?_⟩))
local macro_rules | `(tactic| walk_at "b") => `(tactic| try dsimp (config := { proj := false, iota := false, eta := false, zeta := false }) only)
section
variable {P : Program} {w : World} {K : PySem.W.Frag} {mg : Str → Option Value} {base : Heap} [pf : Sup.PF P fileS]
def sp_law_long_right (C : Addr) : Sp := fun vs H Q _ => ∃ (g x : Addr) (ws : List Int) (sh n : Nat), vs = [.ref g, .ref x] ∧ GenAt H g n ∧ n ≤ 10 ^ 7 ∧ GuesserBut C g H x ws sh ∧ ∀ H', But g H H' → GenAt H' g (n + 200000) → Q (.bl true) H'
theorem G_law_long_right (T : Top K mg) : FnG P w K mg base CX0 9 T.f_law_long_right T.fd_law_long_right ["_law_generator_here", "_law_guesser"] (sp_law_long_right T.C_Guesser) := by
  refine FnG.body T.F_law_long_right sc_law_long_right (fun vs H Q E h => by obtain ⟨g, x, ws, sh, n, rfl, _⟩ := h; rfl) (fun cdv A outer s H vs Q E gd hr h => ?_)
  obtain ⟨g, x, ws, sh, n, rfl, hG, hn, hX, q⟩ := h
  refine ⟨_, PSs.nox (pss_cons (ps_set (i := 2) sc_law_long_right.nd rfl (by first | exact Or.inl rfl | exact Or.inr rfl) (pe_op op_add pe_int (pe_call (G_law_random (P := P) T) (hr.mono (by decide)) (by rfl) T.g_law_random T.F_law_random.kp T.b_law_random .nil pass0 (pa_cons (pv 0) (pa_cons pe_int pa_nil)))))
  (pss_cons (ps_set (i := 3) sc_law_long_right.nd rfl (by first | exact Or.inl rfl | exact Or.inr rfl) (pe_op op_sub (pe_op op_sub (pv 2) pe_int) (pe_call (G_law_random (P := P) T) (hr.mono (by decide)) (by rfl) T.g_law_random T.F_law_random.kp T.b_law_random .nil pass0 (pa_cons (pv 0) (pa_cons pe_int pa_nil)))))
  (pss_cons (ps_set (i := 4) sc_law_long_right.nd rfl (by first | exact Or.inl rfl | exact Or.inr rfl) (pe_call (G_law_row (P := P) T) (hr.mono (by decide)) (by rfl) T.g_law_row T.F_law_row.kp T.b_law_row .nil pass0 (pa_cons (pv 0) (pa_cons (pv 2) (pa_cons (pe_op op_add pe_int (pe_call (G_law_random (P := P) T) (hr.mono (by decide)) (by rfl) T.g_law_random T.F_law_random.kp T.b_law_random .nil pass0 (pa_cons (pv 0) (pa_cons pe_int pa_nil)))) pa_nil)))))
  (pss_cons (ps_asg (pe_call (G_number_of (P := P) T) (hr.mono (by decide)) (by rfl) T.g_number_of T.F_number_of.kp T.b_number_of .nil pass0 (pa_cons (pv 1) (pa_cons (pv 2) (pa_cons (pv 3) (pa_cons (pe_callTy (k_listOf K rfl) (by rfl) T.n_list (by decide +kernel) (pa_cons (pv 4) pa_nil)) pa_nil))))) (k_pgT K rfl (by rfl) (pgs_cons (pg_name (i := 7) sc_law_long_right.nd rfl (by first | exact Or.inl rfl | exact Or.inr rfl)) (pgs_cons (pg_name (i := 8) sc_law_long_right.nd rfl (by first | exact Or.inl rfl | exact Or.inr rfl)) pgs_nil))))
  (pss_cons (ps_set (i := 5) sc_law_long_right.nd rfl (by first | exact Or.inl rfl | exact Or.inr rfl) (pe_call (G_how_many (P := P) T) (hr.mono (by decide)) (by rfl) T.g_how_many T.F_how_many.kp T.b_how_many .nil pass0 (pa_cons (pv 2) (pa_cons (pv 3) (pa_cons (pe_callB (k_len K rfl) (by rfl) T.n_len (by decide +kernel) (pa_cons (pv 4) pa_nil)) (pa_cons (pv 7) pa_nil))))))
  (pss_cons (ps_if (PW.pt (pw_or (pt_cmpR op_ne (pv 7) (pe_call (G_law_size (P := P) T) (hr.mono (by decide)) (by rfl) T.g_law_size T.F_law_size.kp T.b_law_size .nil pass0 (pa_cons (pe_call (G_law_folds (P := P) T) (hr.mono (by decide)) (by rfl) T.g_law_folds T.F_law_folds.kp T.b_law_folds .nil pass0 (pa_cons (pv 1) (pa_cons (pv 2) (pa_cons (pv 4) pa_nil)))) (pa_cons (pv 3) pa_nil))) (nomark _)) (pw_or1 (pt_not (pt_chain op_le op_lt pe_int (pv 8) (pv 5))))))
    (pss_one (ps_ret pe_bl))
    pss_nil)
  (pss_cons (ps_if (pt_cmpR (k_neD K rfl hr.units) (pe_call (G_row_at (P := P) T) (hr.mono (by decide)) (by rfl) T.g_row_at T.F_row_at.kp T.b_row_at .nil passL (pa_cons (pv 1) (pa_cons (pv 2) (pa_cons (pv 3) (pa_cons (pe_callB (k_len K rfl) (by rfl) T.n_len (by decide +kernel) (pa_cons (pv 4) pa_nil)) (pa_cons (pv 7) (pa_cons (pv 8) pa_nil))))))) (pv 4) (nomark _))
    (pss_one (ps_ret pe_bl))
    pss_nil)
  (pss_cons (ps_if (pt_cmpR op_eq (pe_op op_add (pv 8) pe_int) (pv 5) (nomark _))
    (pss_one (ps_ret (pe_callG (G_law_refused (P := P) T) gd (hr.mono (by decide)) (by rfl) T.g_law_refused T.F_law_refused.kp T.b_law_refused .nil pass0 (pa_cons (pv 1) (pa_cons (pv 2) (pa_cons (pv 3) (pa_cons (pe_callB (k_len K rfl) (by rfl) T.n_len (by decide +kernel) (pa_cons (pv 4) pa_nil)) (pa_cons (pv 7) (pa_cons (pv 5) pa_nil)))))))))
    pss_nil)
  (pss_cons (ps_set (i := 6) sc_law_long_right.nd rfl (by first | exact Or.inl rfl | exact Or.inr rfl) (pe_call (G_law_folds (P := P) T) (hr.mono (by decide)) (by rfl) T.g_law_folds T.F_law_folds.kp T.b_law_folds .nil pass0 (pa_cons (pv 1) (pa_cons (pv 2) (pa_cons (pe_call (G_row_at (P := P) T) (hr.mono (by decide)) (by rfl) T.g_row_at T.F_row_at.kp T.b_row_at .nil passL (pa_cons (pv 1) (pa_cons (pv 2) (pa_cons (pv 3) (pa_cons (pe_callB (k_len K rfl) (by rfl) T.n_len (by decide +kernel) (pa_cons (pv 4) pa_nil)) (pa_cons (pv 7) (pa_cons (pe_op op_add (pv 8) pe_int) pa_nil))))))) pa_nil)))))
  (pss_one (ps_ret (pe_and (pe_cmpR (k_gtR K rfl hr.units) (pv 6) (pe_call (G_law_folds (P := P) T) (hr.mono (by decide)) (by rfl) T.g_law_folds T.F_law_folds.kp T.b_law_folds .nil pass0 (pa_cons (pv 1) (pa_cons (pv 2) (pa_cons (pv 4) pa_nil)))) (nomark _)) (pe_one (pe_cmpR op_eq (pe_call (G_law_size (P := P) T) (hr.mono (by decide)) (by rfl) T.g_law_size T.F_law_size.kp T.b_law_size .nil pass0 (pa_cons (pv 6) (pa_cons (pv 3) pa_nil))) (pv 7) (nomark _))))))))))))))), ?_⟩
  refine ⟨_, rfl, g, _, _, rfl, hG, by omega, by decide, small_2900 (by decide), fun r1 H1 r10 r11 g1 b1 => ?_⟩
  refine ⟨_, _, rfl, rfl, ?_⟩
  obtain ⟨d, hd⟩ : ∃ d : Nat, 4 + r1 = (d : Int) := ⟨(4 + r1).toNat, by omega⟩
  dsimp only
  rw [hd]
  refine ⟨_, rfl, _, _, rfl, rfl, _, rfl, g, _, _, rfl, g1, by omega, by decide, small_2900 (by decide), fun r2 H2 r20 r21 g2 b2 => ?_⟩
  refine ⟨_, _, rfl, rfl, ?_⟩
  obtain ⟨i, hi⟩ : ∃ i : Nat, (d : Int) - 1 - r2 = (i : Int) := ⟨((d : Int) - 1 - r2).toNat, by omega⟩
  dsimp only
  rw [hi]
  refine ⟨_, rfl, _, rfl, _, rfl, g, _, _, rfl, g2, by omega, by decide, small_2900 (by decide), fun r3 H3 r30 r31 g3 b3 => ?_⟩
  refine ⟨_, _, rfl, rfl, ?_⟩
  obtain ⟨m, hm⟩ : ∃ m : Nat, 4 + r3 = (m : Int) := ⟨(4 + r3).toNat, by omega⟩
  dsimp only
  rw [hm]
  refine ⟨g, d, m, _, rfl, g3, by omega, by omega, by omega, by omega, fun H4 pr row npr b4 g4 hpr hrl hrs => ?_⟩
  have b04 : But g H H4 := ((b1.trans b2).trans b3).trans b4
  have hG4 : GuesserAt T.C_Guesser H4 x ws sh := hX _ b04
  have hS4 : SqL K H4 pr (row.map V.int) := .inl (.inl hpr)
  refine ⟨_, rfl, _, rfl, _, rfl, _, rfl, pr, _, rfl, .inl hS4, fun pl npl => ?_⟩
  obtain ⟨H5, e5, s5, h5⟩ := fresh (.lst (row.map V.int)) npl
  rw [e5]
  refine ⟨x, pl, ws, sh, d, i, row, rfl, hG4.same s5, .inl h5, by omega, hrs, by omega, by omega, by omega, by omega, fun H6 pt s6 hpt => ?_⟩
  refine ⟨pt, _, rfl, .inl (.inl hpt), rfl, _, _, rfl, _, _, rfl, rfl, ?_⟩
  have hfl := folds_len ws sh d row
  have hflt := folds_lt ws sh row (show 1 ≤ d by omega)
  have hbk := back_folds ws sh d hrs
  rw [width_split (show i ≤ d by omega)] at hflt
  have htot := tot_le hflt
  have hnlt := num_lt hflt
  rw [hfl, hrl] at htot hnlt
  have hsz : ((sizeN i (foldsF ws sh d row) : Nat) : Int) = ((totF i (foldsF ws sh d row) : Nat) : Int) + (m : Int) * ((i : Int) + 1) := by
    unfold sizeN
    rw [hfl, hrl, Int.natCast_add, Int.natCast_mul]
    rfl
  generalize hfs : foldsF ws sh d row = fs at *
  have s46 := s5.trans s6
  refine ⟨_, rfl, _, rfl, _, rfl, pr, _, rfl, .inl (s46.seq hS4), _, rfl, d, i, m, totF i fs, _, ?_, hsz, by omega, by omega, by omega, by omega, by omega, htot, ?_⟩
  · rw [List.length_map, hrl]; rfl
  refine ⟨_, rfl, _, rfl, _, rfl, _, rfl, x, pr, ws, sh, d, row, rfl, hG4.same s46, .inl (s46 _ _ hpr), by omega, hrs, by omega, by omega, fun H7 pf s7 npf hpf => ?_⟩
  rw [hfs] at hpf
  refine ⟨_, rfl, pf, fs, i, rfl, .inl (.inl hpf), by omega, fun H8 s8 => ?_⟩
  refine ⟨rfl, ?_⟩
  rw [decide_eq_true rfl]
  refine ⟨_, rfl, iteF ?_⟩
  refine ⟨_, rfl, _, _, rfl, rfl, _, rfl, ?_⟩
  rw [decide_eq_true (show (0 : Int) ≤ ((numF i (2 ^ (d - i)) fs : Nat) : Int) from Int.natCast_nonneg _)]
  refine iteT ⟨_, rfl, _, _, rfl, rfl, _, rfl, ?_⟩
  rw [decide_eq_true (show ((numF i (2 ^ (d - i)) fs : Nat) : Int) < ((cntF i (2 ^ (d - i)) m (totF i fs) : Nat) : Int) from Int.ofNat_lt.mpr hnlt)]
  refine iteF ?_
  have s48 := (s46.trans s7).trans s8
  refine ⟨_, rfl, _, rfl, _, rfl, _, rfl, pr, _, rfl, .inl (s48.seq hS4), _, rfl, _, rfl, x, ws, sh, d, i, m, totF i fs, _, _, ?_, hsz, hG4.same s48, by omega, by omega, by omega, by omega, by omega, htot, Int.natCast_nonneg _, .inl ⟨fs, by omega, rfl, hflt, rfl, fun H9 p9 s9 np9 hp9 => ?_⟩⟩
  · rw [List.length_map, hrl]; rfl
  rw [hbk] at hp9
  have s49 := s48.trans s9
  refine ⟨_, rfl, ne_lst (ns := row) (.inl (.inl hp9)) (s49.seq hS4) ⟨_, rfl, iteF ?_⟩⟩
  refine ⟨_, rfl, _, _, rfl, rfl, _, rfl, rfl, _, rfl, ?_⟩
  by_cases c : numF i (2 ^ (d - i)) fs + 1 = cntF i (2 ^ (d - i)) m (totF i fs)
  · rw [decide_eq_true (congrArg V.int (show ((numF i (2 ^ (d - i)) fs : Nat) : Int) + 1 = ((cntF i (2 ^ (d - i)) m (totF i fs) : Nat) : Int) by omega))]
    refine iteT ?_
    have hc90 : cntF i (2 ^ (d - i)) m (totF i fs) < 10 ^ 90 := by
      have hb := tbl_small (r := d - i) (m := m) (t := totF i fs) (by omega) (by omega) (Nat.le_trans htot (Nat.mul_le_mul_right _ (by omega)))
      have him : i * m ≤ 8 * 13 := Nat.mul_le_mul (by omega) (by omega)
      have hp : (2 : Nat) ^ (i * m) < 2 ^ 105 := Nat.pow_lt_pow_right (by decide) (by omega)
      exact Nat.lt_trans (mul_bd hp hb) (by decide +kernel)
    refine ⟨_, rfl, _, rfl, _, rfl, _, rfl, pr, _, rfl, .inl (s49.seq hS4), _, rfl, _, rfl, x, ws, sh, d, i, m, totF i fs, _, _, ?_, hsz, hG4.same s49, by omega, by omega, by omega, by omega, by omega, htot, Int.natCast_nonneg _, Int.le_refl _, hc90, fun H10 s10 => ?_⟩
    · rw [List.length_map, hrl]; rfl
    exact q _ (b04.same (s49.trans s10)) ((g4.same (s49.trans s10)).mono (by omega))
  · rw [decide_eq_false (fun z => c (by have := V.int.inj z; omega))]
    refine iteF ?_
    obtain ⟨fs2, f1, f2, f3, f4⟩ := of_num (w := i) (b := 2 ^ (d - i)) m (totF i fs) (numF i (2 ^ (d - i)) fs + 1) (by omega)
    refine ⟨_, rfl, _, rfl, _, rfl, _, rfl, _, rfl, _, rfl, pr, _, rfl, .inl (s49.seq hS4), _, rfl, _, rfl, _, _, rfl, rfl, x, ws, sh, d, i, m, totF i fs, _, ((numF i (2 ^ (d - i)) fs + 1 : Nat) : Int), ?_, hsz, hG4.same s49, by omega, by omega, by omega, by omega, by omega, htot, Int.natCast_nonneg _, .inl ⟨fs2, f1, f2, f3, by rw [f4], fun H10 p10 s10 np10 hp10 => ?_⟩⟩
    · rw [List.length_map, hrl]; rfl
    have f3' : ∀ f ∈ fs2, f < 2 ^ d := by rw [width_split (show i ≤ d by omega)]; exact f3
    have hfb := folds_back ws sh (show 1 ≤ d by omega) f3'
    refine ⟨x, p10, ws, sh, d, backF ws sh d fs2, rfl, (hG4.same s49).same s10, .inl hp10, by rw [backF_len]; omega, backF_samples ws sh d fs2, by omega, by omega, fun H11 p11 s11 np11 hp11 => ?_⟩
    rw [hfb] at hp11
    have s411 := (s49.trans s10).trans s11
    refine ⟨_, rfl, _, rfl, _, rfl, _, rfl, x, pr, ws, sh, d, row, rfl, hG4.same s411, .inl (s411 _ _ hpr), by omega, hrs, by omega, by omega, fun H12 p12 s12 np12 hp12 => ?_⟩
    rw [hfs] at hp12
    have hlt : fs < fs2 := by
      refine (num_lt_iff (w := i) (b := 2 ^ (d - i)) (by omega) f2.symm hflt f3).mp ?_
      omega
    refine ⟨intsN fs2, intsN fs, dp_row (.inl (.inl (s12 _ _ hp11))), dp_row (.inl (.inl hp12)), ?_⟩
    rw [decide_eq_true (cast_lt.mpr hlt)]
    refine ⟨_, rfl, iteT ?_⟩
    refine ⟨_, rfl, _, rfl, p11, fs2, i, rfl, .inl (.inl (s12 _ _ hp11)), by omega, fun H13 s13 => ?_⟩
    have he : sizeN i fs2 = sizeN i fs := by
      unfold sizeN
      rw [f2, f1, hfl, hrl]
    refine ⟨_, rfl, rfl, ?_⟩
    rw [he, decide_eq_true rfl]
    exact q _ (b04.same ((s411.trans s12).trans s13)) ((g4.same ((s411.trans s12).trans s13)).mono (by omega))
end
end My

namespace My
open PySem PySem.Spec PyProof.Rows L2 Pre
/-! ### rows by their sizes, in a dict -/
theorem Off.refl {D : Addr} {H : Hp} : Off D H H := fun _ _ _ h => h
theorem Off.same {D : Addr} {H H1 H2 : Hp} (a : Off D H H1) (b : Same H1 H2) : Off D H H2 := fun c o n h => b c o (a c o n h)
theorem Off.upd {D : Addr} {H H1 : Hp} {o : HO} (a : Off D H H1) : Off D H (upd H1 D o) := fun c u n h => by
  rw [upd_ne n]
  exact a c u n h
theorem Off.trans {D : Addr} {H H1 H2 : Hp} (a : Off D H H1) (b : Off D H1 H2) : Off D H H2 := fun c o n h => b c o n (a c o n h)
theorem Off.back {D : Addr} {H H1 H2 : Hp} (s : Same H H1) (n : H D = none) (b : Off D H1 H2) : Same H H2 := fun c o h => b c o (ne_of_none h n) (s c o h)
def TwoAt (ws : List Int) (sh d : Nat) (H : Hp) (t : Addr) (r : List Int) : Prop := ∃ fa ra, H t = some (.tup [.ref fa, .ref ra]) ∧ H fa = some (.lst ((intsN (foldsF ws sh d r)).map V.int)) ∧ H ra = some (.lst (r.map V.int))
def TwosAt (ws : List Int) (sh d : Nat) (H : Hp) (L : Addr) (rows : List (List Int)) : Prop := ∃ ts : List Addr, H L = some (.lst (ts.map V.ref)) ∧ ts.length = rows.length ∧ ∀ (k : Nat) (t : Addr) (r : List Int), ts[k]? = some t → rows[k]? = some r → TwoAt ws sh d H t r
section
variable {ws : List Int} {sh d : Nat} {H H' : Hp} {t L pd : Addr} {r : List Int} {rows : List (List Int)} {u : HO}
theorem TwoAt.off (h : TwoAt ws sh d H t r) (hu : ∀ o, H pd = some o → (∀ xs, o ≠ .lst xs) ∧ ∀ xs, o ≠ .tup xs) (s : Off pd H H') : TwoAt ws sh d H' t r := by
  obtain ⟨fa, ra, h1, h2, h3⟩ := h
  refine ⟨fa, ra, s _ _ ?_ h1, s _ _ ?_ h2, s _ _ ?_ h3⟩
  · intro e; rw [e] at h1; exact (hu _ h1).2 _ rfl
  · intro e; rw [e] at h2; exact (hu _ h2).1 _ rfl
  · intro e; rw [e] at h3; exact (hu _ h3).1 _ rfl
theorem TwosAt.off (h : TwosAt ws sh d H L rows) (hu : ∀ o, H pd = some o → (∀ xs, o ≠ .lst xs) ∧ ∀ xs, o ≠ .tup xs) (s : Off pd H H') : TwosAt ws sh d H' L rows := by
  obtain ⟨ts, h1, h2, h3⟩ := h
  refine ⟨ts, s _ _ ?_ h1, h2, fun k t r a b => (h3 k t r a b).off hu s⟩
  intro e; rw [e] at h1; exact (hu _ h1).1 _ rfl
theorem TwoAt.same (h : TwoAt ws sh d H t r) (s : Same H H') : TwoAt ws sh d H' t r := by
  obtain ⟨fa, ra, h1, h2, h3⟩ := h
  exact ⟨fa, ra, s _ _ h1, s _ _ h2, s _ _ h3⟩
theorem TwosAt.same (h : TwosAt ws sh d H L rows) (s : Same H H') : TwosAt ws sh d H' L rows := by
  obtain ⟨ts, h1, h2, h3⟩ := h
  exact ⟨ts, s _ _ h1, h2, fun k t r a b => (h3 k t r a b).same s⟩
theorem not_seq {kvs : List (Key × V)} (h : H pd = some (.dK kvs)) : ∀ o, H pd = some o → (∀ xs, o ≠ .lst xs) ∧ ∀ xs, o ≠ .tup xs := fun o e => by
  rw [h] at e
  cases e
  exact ⟨(fun _ z => nomatch z), (fun _ z => nomatch z)⟩
theorem not_seqF {kvs : List (Key × V)} {o' : Obj} (h : H pd = some (.frz o' (.dK kvs))) : ∀ o, H pd = some o → (∀ xs, o ≠ .lst xs) ∧ ∀ xs, o ≠ .tup xs := fun o e => by
  rw [h] at e
  cases e
  exact ⟨(fun _ z => nomatch z), (fun _ z => nomatch z)⟩
end
structure LD (ws : List Int) (sh d : Nat) (H : Hp) (kvs : List (Key × V)) (f : Int → List (List Int)) : Prop where
  nd : (kvs.map (·.1)).Nodup
  allI : ∀ p ∈ kvs, ∃ s : Int, p.1 = Sum.inl s
  val : ∀ s : Int, (valV kvs (Sum.inl s) = none ∧ f s = []) ∨ ∃ L, valV kvs (Sum.inl s) = some (.ref L) ∧ f s ≠ [] ∧ TwosAt ws sh d H L (f s)
theorem LD.off {ws : List Int} {sh d : Nat} {H H' : Hp} {pd : Addr} {kvs : List (Key × V)} {f : Int → List (List Int)} (h : LD ws sh d H kvs f) (hu : ∀ o, H pd = some o → (∀ xs, o ≠ .lst xs) ∧ ∀ xs, o ≠ .tup xs) (s : Off pd H H') : LD ws sh d H' kvs f :=
  ⟨h.nd, h.allI, fun z => by
    rcases h.val z with q | ⟨L, q1, q0, q2⟩
    · exact .inl q
    · exact .inr ⟨L, q1, q0, q2.off hu s⟩⟩
theorem LD.same {ws : List Int} {sh d : Nat} {H H' : Hp} {kvs : List (Key × V)} {f : Int → List (List Int)} (h : LD ws sh d H kvs f) (s : Same H H') : LD ws sh d H' kvs f :=
  ⟨h.nd, h.allI, fun z => by
    rcases h.val z with q | ⟨L, q1, q0, q2⟩
    · exact .inl q
    · exact .inr ⟨L, q1, q0, q2.same s⟩⟩
theorem put_keys {κ : Type} [DecidableEq κ] {kvs : List (κ × V)} {k : κ} {v : V} : (putK kvs k v).map (·.1) = if (valV kvs k).isSome = true then kvs.map (·.1) else kvs.map (·.1) ++ [k] := by
  cases h : valV kvs k with
  | none =>
    rw [putK_new v h, List.map_append]
    rfl
  | some x =>
    have ha := valV_any k kvs
    rw [h] at ha
    unfold putK
    rw [if_pos (by first | exact ha | rw [ha]; rfl)]
    rw [if_pos (show (some x).isSome = true from rfl), List.map_map]
    refine List.map_congr_left fun p _ => ?_
    show (if p.1 = k then (p.1, v) else p).1 = p.1
    split <;> rfl
theorem put_len {kvs : List (Key × V)} {k : Key} {v : V} : (putK kvs k v).length ≤ kvs.length + 1 := by
  have e := congrArg List.length (put_keys (kvs := kvs) (k := k) (v := v))
  rw [List.length_map] at e
  rw [e]
  split
  · rw [List.length_map]; omega
  · rw [List.length_append, List.length_map]; simp
theorem LD.put {ws : List Int} {sh d : Nat} {H : Hp} {kvs : List (Key × V)} {f : Int → List (List Int)} (h : LD ws sh d H kvs f) (s : Int) (L : Addr) (rows : List (List Int)) (hL : TwosAt ws sh d H L rows) (hr : rows ≠ []) : LD ws sh d H (putK kvs (Sum.inl s) (.ref L)) fun t => if t = s then rows else f t := by
  refine ⟨?_, fun p hp => ?_, fun t => ?_⟩
  · rw [put_keys]
    split
    · exact h.nd
    · rename_i e
      have hn : valV kvs (Sum.inl s : Key) = none := by
        cases q : valV kvs (Sum.inl s : Key) with
        | none => rfl
        | some x => rw [q] at e; exact absurd rfl e
      exact List.nodup_append.mpr ⟨h.nd, by simp, fun a ha b hb => by
        rw [List.mem_singleton.mp hb]
        intro e
        rw [e] at ha
        exact valV_not hn ha⟩
  · have hk : p.1 ∈ (putK kvs (Sum.inl s) (.ref L)).map (·.1) := List.mem_map.mpr ⟨p, hp, rfl⟩
    rw [put_keys] at hk
    have key : p.1 ∈ kvs.map (·.1) → ∃ s : Int, p.1 = Sum.inl s := fun hm => by
      obtain ⟨q, hq, e⟩ := List.mem_map.mp hm
      obtain ⟨t, ht⟩ := h.allI q hq
      exact ⟨t, by rw [← e, ht]⟩
    split at hk
    · exact key hk
    · rcases List.mem_append.mp hk with hk | hk
      · exact key hk
      · exact ⟨s, List.mem_singleton.mp hk⟩
  · rw [valV_put]
    by_cases e : t = s
    · rw [e, if_pos rfl, if_pos rfl]
      exact .inr ⟨L, rfl, hr, hL⟩
    · rw [if_neg (fun q => e (Sum.inl.inj q)), if_neg e]
      exact h.val t
theorem valV_mem {kvs : List (Key × V)} (nd : (kvs.map (·.1)).Nodup) {p : Key × V} (hp : p ∈ kvs) : valV kvs p.1 = some p.2 := by
  induction kvs with
  | nil => cases hp
  | cons q r ih =>
    rw [List.map_cons, List.nodup_cons] at nd
    rcases List.mem_cons.mp hp with rfl | hp
    · exact valV_pos rfl
    · rw [valV_neg (fun e => nd.1 (by rw [e]; exact List.mem_map.mpr ⟨p, hp, rfl⟩))]
      exact ih nd.2 hp
theorem LD.congr {ws : List Int} {sh d : Nat} {H : Hp} {kvs : List (Key × V)} {f g : Int → List (List Int)} (h : LD ws sh d H kvs f) (e : ∀ s, f s = g s) : LD ws sh d H kvs g := ⟨h.nd, h.allI, fun s => by rw [← e s]; exact h.val s⟩
/-- one of the keys: its rows -/
theorem LD.at {ws : List Int} {sh d : Nat} {H : Hp} {kvs : List (Key × V)} {f : Int → List (List Int)} (h : LD ws sh d H kvs f) {k : Key} {v : V} {j : Nat} (hk : kvs[j]? = some (k, v)) : ∃ s L, k = Sum.inl s ∧ v = .ref L ∧ valV kvs (Sum.inl s) = some (.ref L) ∧ f s ≠ [] ∧ TwosAt ws sh d H L (f s) := by
  have hm := List.mem_of_getElem? hk
  obtain ⟨s, hs⟩ := h.allI _ hm
  have hv := valV_mem h.nd hm
  simp only at hs hv
  rw [hs] at hv
  rcases h.val s with ⟨e, _⟩ | ⟨L, e, q0, q⟩
  · rw [e] at hv; cases hv
  · rw [e] at hv
    exact ⟨s, L, hs, (Option.some.inj hv).symm, e, q0, q⟩
/-- one pair more -/
theorem TwosAt.more {ws : List Int} {sh d : Nat} {H H' : Hp} {L L2 t : Addr} {rows : List (List Int)} {r : List Int} {ts : List Addr} (hl : ts.length = rows.length) (h : ∀ (k : Nat) (t : Addr) (r : List Int), ts[k]? = some t → rows[k]? = some r → TwoAt ws sh d H t r) (s : Same H H') (hL : H' L2 = some (.lst (ts.map V.ref ++ [.ref t]))) (ht : TwoAt ws sh d H' t r) : TwosAt ws sh d H' L2 (rows ++ [r]) := by
  refine ⟨ts ++ [t], by rw [hL, List.map_append]; rfl, by rw [List.length_append, List.length_append, hl]; rfl, fun k t' r' a b => ?_⟩
  by_cases c : k < ts.length
  · rw [List.getElem?_append_left c] at a
    rw [List.getElem?_append_left (by omega)] at b
    exact (h k t' r' a b).same s
  · rw [List.getElem?_append_right (by omega)] at a
    rw [List.getElem?_append_right (by omega), ← hl] at b
    have hk : k - ts.length = 0 := by
      have := (List.getElem?_eq_some_iff.mp a).1
      rw [List.length_singleton] at this
      omega
    rw [hk] at a b
    cases a
    cases b
    exact ht
/-- a list of pairs of rows, as it is sorted -/
theorem TwosAt.data {K : PySem.W.Frag} {ws : List Int} {sh d : Nat} {H : Hp} : ∀ {ts : List Addr} {rows : List (List Int)}, ts.length = rows.length → (∀ (k : Nat) (t : Addr) (r : List Int), ts[k]? = some t → rows[k]? = some r → TwoAt ws sh d H t r) →
    ∃ ps : List (V × (List Int × List Int)), ps.map Prod.fst = ts.map V.ref ∧ ps.map (fun p => p.2) = rows.map (fun r => (intsN (foldsF ws sh d r), r)) ∧ (∀ q ∈ ps, Dp K H q.1 (pairDt q.2)) ∧ ∀ q ∈ ps, ∃ t r, q = (.ref t, (intsN (foldsF ws sh d r), r)) ∧ TwoAt ws sh d H t r
  | [], [], _, _ => ⟨[], rfl, rfl, (fun _ z => nomatch z), fun _ z => nomatch z⟩
  | t :: ts, r :: rows, hl, h => by
    obtain ⟨ps, e1, e2, e3, e4⟩ := TwosAt.data (K := K) (ts := ts) (rows := rows) (by simpa using hl) fun k t' r' a b => h (k + 1) t' r' a b
    have hp := h 0 t r rfl rfl
    refine ⟨(.ref t, (intsN (foldsF ws sh d r), r)) :: ps, by rw [List.map_cons, e1]; rfl, by rw [List.map_cons, e2]; rfl, fun q hq => ?_, fun q hq => ?_⟩
    · rcases List.mem_cons.mp hq with rfl | hq
      · obtain ⟨fa, ra, h1, h2, h3⟩ := hp
        exact .tup (.inl (.inl h1)) (.cons (dp_row (.inl (.inl h2))) (.cons (dp_row (.inl (.inl h3))) .nil))
      · exact e3 q hq
    · rcases List.mem_cons.mp hq with rfl | hq
      · exact ⟨t, r, rfl, hp⟩
      · exact e4 q hq
  | [], _ :: _, hl, _ => by simp at hl
  | _ :: _, [], hl, _ => by simp at hl
end My

namespace My
open PySem PySem.Spec PyProof.Rows L2 Pre
/-! ### all rows of few samples -/
def ofSize (ws : List Int) (sh d i : Nat) (rows : List (List Int)) (s : Int) : List (List Int) := rows.filter fun r => decide (((sizeN i (foldsF ws sh d r) : Nat) : Int) = s)
theorem size_next (ws : List Int) (sh d i : Nat) {rows : List (List Int)} {j : Nat} {r : List Int} (hr : rows[j]? = some r) (s : Int) :
    (if s = ((sizeN i (foldsF ws sh d r) : Nat) : Int) then ofSize ws sh d i (rows.take j) s ++ [r] else ofSize ws sh d i (rows.take j) s) = ofSize ws sh d i (rows.take (j + 1)) s := by
  unfold ofSize
  rw [List.take_add_one, hr, List.filter_append]
  by_cases c : ((sizeN i (foldsF ws sh d r) : Nat) : Int) = s
  · rw [if_pos c.symm]
    congr 1
    show [r] = [r].filter _
    rw [List.filter_cons_of_pos (by simpa using c)]
    rfl
  · rw [if_neg fun e => c e.symm]
    have e : (some r).toList.filter (fun r => decide (((sizeN i (foldsF ws sh d r) : Nat) : Int) = s)) = [] := List.filter_cons_of_neg (by simpa using c)
    rw [e, List.append_nil]
local macro_rules | `(tactic| walk_at "go") => `(tactic| repeat (first | (with_reducible first | refine iteT ?_ | refine iteF ?_ | refine iteNtt ?_ | refine iteNff ?_ | refine iteET (by omega) ?_ | refine iteEF (by omega) ?_ | refine iteENT (by omega) ?_ | refine iteENF (by omega) ?_ | refine iteDT (by omega) ?_ | refine iteDF (by omega) ?_ | refine iteNT (by omega) ?_ | refine iteNF (by omega) ?_) | refine ⟨_, rfl, ?_⟩ | refine ⟨_, _, rfl, rfl, ?_⟩ | refine ⟨_, _, rfl, ?_⟩ | refine ⟨rfl, ?_⟩ | refine .inl ⟨_, rfl, ?_⟩ | refine .inr ⟨_, rfl, ?_⟩))
local macro_rules | `(tactic| walk_at "b") => `(tactic| try dsimp (config := { proj := false, iota := false, eta := false, zeta := false }) only)
section
variable {P : Program} {w : World} {K : PySem.W.Frag} {mg : Str → Option Value} {base : Heap} [pf : Sup.PF P fileS]
def sp_law_all_right (C : Addr) : Sp := fun vs H Q _ => ∃ (x : Addr) (ws : List Int) (sh d i m : Nat), vs = [.ref x, .int d, .int i, .int m] ∧ GuesserAt C H x ws sh ∧ 1 ≤ d ∧ d ≤ 3 ∧ i ≤ d ∧ m ≤ 2 ∧ ∀ H', Same H H' → Q (.bl true) H'
theorem G_law_all_right (T : Top K mg) : FnG P w K mg base CX0 9 T.f_law_all_right T.fd_law_all_right ["_law_guesser", "_law_depth", "_law_width", "_law_many"] (sp_law_all_right T.C_Guesser) := by
  refine FnG.body T.F_law_all_right sc_law_all_right (fun vs H Q E h => by obtain ⟨x, ws, sh, d, i, m, rfl, _⟩ := h; rfl) (fun cdv A outer s H vs Q E gd hr h => ?_)
  obtain ⟨x, ws, sh, d, i, m, rfl, hG, h0, h1, h2, hm, q⟩ := h
  refine ⟨_, PSs.nox (pss_cons (ps_set (i := 4) sc_law_all_right.nd rfl (by first | exact Or.inl rfl | exact Or.inr rfl) pe_dnewK)
  (pss_cons (ps_for PassesOwn.never rfl (k_piL K rfl (pe_call (G_law_all_rows (P := P) T) (hr.mono (by decide)) (by rfl) T.g_law_all_rows T.F_law_all_rows.kp T.b_law_all_rows .nil pass0 (pa_cons (pv 1) (pa_cons (pv 3) pa_nil)))) (pg_name (i := 5) sc_law_all_right.nd rfl (by first | exact Or.inl rfl | exact Or.inr rfl))
    (pss_cons (ps_set (i := 7) sc_law_all_right.nd rfl (by first | exact Or.inl rfl | exact Or.inr rfl) (pe_call (G_law_folds (P := P) T) (hr.mono (by decide)) (by rfl) T.g_law_folds T.F_law_folds.kp T.b_law_folds .nil pass0 (pa_cons (pv 0) (pa_cons (pv 1) (pa_cons (pv 5) pa_nil)))))
  (pss_cons (ps_set (i := 6) sc_law_all_right.nd rfl (by first | exact Or.inl rfl | exact Or.inr rfl) (pe_call (G_law_size (P := P) T) (hr.mono (by decide)) (by rfl) T.g_law_size T.F_law_size.kp T.b_law_size .nil pass0 (pa_cons (pv 7) (pa_cons (pv 2) pa_nil))))
  (pss_one (ps_dput (hu_of hr) (pv 4) (pv 6) (pe_op op_cat (pe_dget2 (hu_of hr) (pv 4) (pv 6) (pe_lst pa_nil) ⟨by rfl, by rfl, by rfl, by rfl⟩) (pe_lst (pa_cons (pe_tup (pa_cons (pv 7) (pa_cons (pv 5) pa_nil))) pa_nil))) rfl)))))
  (pss_cons (ps_lock (ps_for PassesOwn.never rfl (pi_keys (pv 4)) (pg_name (i := 6) sc_law_all_right.nd rfl (by first | exact Or.inl rfl | exact Or.inr rfl))
    (pss_cons (ps_set (i := 8) sc_law_all_right.nd rfl (by first | exact Or.inl rfl | exact Or.inr rfl) (pe_callB (k_sortedP K rfl (hu65 hr)) (by rfl) T.n_sorted (by decide +kernel) (pa_cons (pe_dget (hu_of hr) (pv 4) (pv 6) (fun _ _ => rfl)) pa_nil)))
  (pss_cons (ps_for PassesOwn.never rfl (pi_range1 (by rfl) T.n_range (pa_cons (pe_callB (k_len K rfl) (by rfl) T.n_len (by decide +kernel) (pa_cons (pv 8) pa_nil)) pa_nil)) (pg_name (i := 9) sc_law_all_right.nd rfl (by first | exact Or.inl rfl | exact Or.inr rfl))
    (pss_cons (ps_set (i := 5) sc_law_all_right.nd rfl (by first | exact Or.inl rfl | exact Or.inr rfl) (pe_ix (k_ixT K rfl) (pe_ix (k_ixL K rfl) (pv 8) (pv 9) (fun _ _ => rfl)) pe_int (fun _ _ => rfl)))
  (pss_cons (ps_if (pt_cmpR (k_neD K rfl hr.units) (pe_call (G_number_of (P := P) T) (hr.mono (by decide)) (by rfl) T.g_number_of T.F_number_of.kp T.b_number_of .nil pass0 (pa_cons (pv 0) (pa_cons (pv 1) (pa_cons (pv 2) (pa_cons (pv 5) pa_nil))))) (pe_tup (pa_cons (pv 6) (pa_cons (pv 9) pa_nil))) (nomark _))
    (pss_one (ps_ret pe_bl))
    pss_nil)
  (pss_one (ps_if (pt_cmpR (k_neD K rfl hr.units) (pe_call (G_row_at (P := P) T) (hr.mono (by decide)) (by rfl) T.g_row_at T.F_row_at.kp T.b_row_at .nil passL (pa_cons (pv 0) (pa_cons (pv 1) (pa_cons (pv 2) (pa_cons (pv 3) (pa_cons (pv 6) (pa_cons (pv 9) pa_nil))))))) (pv 5) (nomark _))
    (pss_one (ps_ret pe_bl))
    pss_nil)))))
  (pss_one (ps_if (pt_not (pt_val (pe_callG (G_law_refused (P := P) T) gd (hr.mono (by decide)) (by rfl) T.g_law_refused T.F_law_refused.kp T.b_law_refused .nil pass0 (pa_cons (pv 0) (pa_cons (pv 1) (pa_cons (pv 2) (pa_cons (pv 3) (pa_cons (pv 6) (pa_cons (pe_callB (k_len K rfl) (by rfl) T.n_len (by decide +kernel) (pa_cons (pv 8) pa_nil)) pa_nil)))))))))
    (pss_one (ps_ret pe_bl))
    pss_nil))))))
  (pss_one (ps_ret pe_bl))))), ?_⟩
  intro pd npd
  obtain ⟨H1, e1, s1, hpd1⟩ := fresh (.dK []) npd
  rw [e1]
  refine ⟨_, rfl, _, rfl, d, m, rfl, h0, h1, by omega, fun H2 pr s2 hR => ?_⟩
  have hpd2 := s2 _ _ hpd1
  have hrl := rows_len d h1 m (by omega)
  have h8 : 8 ^ m ≤ 8 ^ 2 := Nat.pow_le_pow_right (by decide) (by omega)
  obtain ⟨as, hpr, hal, hat⟩ := id hR
  have npr : pr ≠ pd := fun z => by rw [z, hpd2] at hpr; cases hpr
  refine ⟨pr, rfl, ⟨_, .inl (.inl hpr)⟩, for_list (K := K) (a := pr) (xs := as.map V.ref) (fun j σ H3 => ∃ (v5 v6 v7 : Option V) (kvs : List (Key × V)), σ = [some (.ref x), some (.int d), some (.int i), some (.int m), some (.ref pd), v5, v6, v7, none, none] ∧ Off pd H2 H3 ∧ H3 pd = some (.dK kvs) ∧ kvs.length ≤ j ∧ LD ws sh d H3 kvs (ofSize ws sh d i ((allRows d m).take j)))
    ⟨none, none, none, [], rfl, Off.refl, hpd2, Nat.le_refl _, List.nodup_nil, (fun _ h => nomatch h), fun s => .inl ⟨rfl, rfl⟩⟩ (fun j σ H3 _ ⟨_, _, _, _, _, o, _⟩ => .inl (.inl (o _ _ npr hpr))) ?_ ?_⟩
  · rintro j y σ H3 hx ⟨v5, v6, v7, kvs, rfl, o3, hpd3, hkl, hD⟩
    rw [List.getElem?_map] at hx
    obtain ⟨ra, hra, rfl⟩ := Option.map_eq_some_iff.mp hx
    have hj : j < as.length := (List.getElem?_eq_some_iff.mp hra).1
    obtain ⟨r, hr⟩ : ∃ r, (allRows d m)[j]? = some r := ⟨_, List.getElem?_eq_getElem (by omega)⟩
    obtain ⟨hrn, hrs⟩ := mem_rows.mp (List.mem_of_getElem? hr)
    have hra2 := hat j ra r hra hr
    have nra : ra ≠ pd := fun z => by rw [z, hpd2] at hra2; cases hra2
    have hra3 : H3 ra = some (.lst (r.map V.int)) := o3 _ _ nra hra2
    have s03 : Same H H3 := Off.back (s1.trans s2) npd o3
    refine ⟨_, rfl, _, rfl, _, rfl, x, ra, ws, sh, d, r, rfl, hG.same s03, .inl hra3, by omega, hrs, h0, by omega, fun H4 p4 s4 np4 hp4 => ?_⟩
    refine ⟨_, rfl, _, rfl, p4, foldsF ws sh d r, i, rfl, .inl (.inl hp4), by rw [folds_len]; omega, fun H5 s5 => ?_⟩
    have hpd5 := s5 _ _ (s4 _ _ hpd3)
    refine ⟨_, rfl, pd, rfl, .inl ⟨kvs, .inl hpd5⟩, _, rfl, Nat.zero_le _, fun pe npe => ?_⟩
    obtain ⟨H6, e6, s6, hpe⟩ := fresh (.lst []) npe
    rw [e6]
    have hpd6 := s6 _ _ hpd5
    refine ⟨_, DGet.k (k := Sum.inl ((sizeN i (foldsF ws sh d r) : Nat) : Int)) hpd6, ?_⟩
    have s36 := (s4.trans s5).trans s6
    have hD6 := hD.same s36
    generalize hS : ((sizeN i (foldsF ws sh d r) : Nat) : Int) = S at *
    obtain ⟨L0, hgd, ts, hL0, htl, hts⟩ : ∃ L0, (valV kvs (Sum.inl S)).getD (V.ref pe) = .ref L0 ∧ ∃ ts : List Addr, H6 L0 = some (.lst (ts.map V.ref)) ∧ ts.length = (ofSize ws sh d i ((allRows d m).take j) S).length ∧ ∀ (k : Nat) (t : Addr) (r' : List Int), ts[k]? = some t → (ofSize ws sh d i ((allRows d m).take j) S)[k]? = some r' → TwoAt ws sh d H6 t r' := by
      rcases hD6.val S with ⟨e, e0⟩ | ⟨L, e, _, ts, h1, h2, h3⟩
      · rw [e]
        exact ⟨pe, rfl, [], hpe, by rw [e0]; rfl, fun k t r' a => by simp at a⟩
      · rw [e]
        exact ⟨L, rfl, ts, h1, h2, h3⟩
    rw [hgd]
    have htj : ts.length ≤ 64 := by
      rw [htl]
      refine Nat.le_trans (List.length_filter_le _ _) ?_
      rw [List.length_take]
      omega
    refine ⟨_, rfl, _, rfl, (show 2 ≤ sizeLine by decide), fun pt npt => ?_⟩
    obtain ⟨H7, e7, s7, hpt⟩ := fresh (.tup [V.ref p4, V.ref ra]) npt
    rw [e7]
    refine ⟨(show 1 ≤ sizeLine by decide), fun pq npq => ?_⟩
    obtain ⟨H8, e8, s8, hpq⟩ := fresh (.lst [V.ref pt]) npq
    rw [e8]
    refine ⟨L0, pq, _, _, rfl, rfl, s8 _ _ (s7 _ _ hL0), hpq, by rw [List.length_map, sizeLine_eq]; show ts.length + 1 ≤ _; omega, fun pn npn => ?_⟩
    obtain ⟨H9, e9, s9, hpn⟩ := fresh (.lst (ts.map V.ref ++ [V.ref pt])) npn
    rw [e9]
    have s69 := (s7.trans s8).trans s9
    have s39 := s36.trans s69
    have hpd9 := s39 _ _ hpd3
    have ht9 : TwoAt ws sh d H9 pt r := ⟨p4, ra, s9 _ _ (s8 _ _ hpt), s69 _ _ (s6 _ _ (s5 _ _ hp4)), s39 _ _ hra3⟩
    have hm9 := TwosAt.more (L := L0) htl hts s69 hpn ht9
    refine ⟨_, rfl, _, rfl, pd, _, rfl, DPut.k (k := Sum.inl S) hpd9 (by rw [sizeLine_eq]; omega), ?_⟩
    refine ⟨_, _, _, putK kvs (Sum.inl S) (.ref pn), rfl, Off.upd (Off.same o3 s39), upd_same, Nat.le_trans put_len (by omega), ?_⟩
    refine (((hD.same s39).put S pn _ hm9 (by simp)).off (not_seq hpd9) (Off.upd Off.refl)).congr fun s => ?_
    rw [← size_next ws sh d i hr s, hS]
    by_cases e : s = S
    · subst e; rfl
    · rw [if_neg e, if_neg e]
  · rintro σ H3 ⟨v5, v6, v7, kvs, rfl, o3, hpd3, hkl, hD⟩
    rw [List.length_map, hal, List.take_length] at hD
    have s03 : Same H H3 := Off.back (s1.trans s2) npd o3
    refine ⟨pd, .dK kvs, hpd3, trivial, fun od => ?_⟩
    have oF : Off pd H3 (upd H3 pd (.frz od (.dK kvs))) := Off.upd Off.refl
    have hpdF : (upd H3 pd (.frz od (.dK kvs))) pd = some (.frz od (.dK kvs)) := upd_same
    generalize upd H3 pd (.frz od (.dK kvs)) = Hf at oF hpdF
    have sHF : Same H Hf := fun c o h => oF c o (ne_of_none h npd) (s03 c o h)
    have hDF := hD.off (not_seq hpd3) oF
    refine ⟨_, rfl, pd, od, rfl, .inl ⟨kvs, hpdF, ?_⟩⟩
    refine for_it walk_keys (fun j σ H4 => ∃ v5 v6 v7 v8 v9, σ = [some (.ref x), some (.int d), some (.int i), some (.int m), some (.ref pd), v5, v6, v7, v8, v9] ∧ Same Hf H4)
      ⟨_, _, _, _, _, rfl, Same.refl _⟩ (fun j σ H4 _ ⟨_, _, _, _, _, _, s⟩ => s _ _ hpdF) ?_ ?_
    · rintro j y σ H4 H5 hj ⟨v5, v6, v7, v8, v9, rfl, s4⟩ ⟨rfl, k, v, hk, rfl⟩
      have hD4 := hDF.same s4
      obtain ⟨S, L, rfl, rfl, hv, hne, ts, hL, htl, hts⟩ := hD4.at hk
      obtain ⟨r0, hr0⟩ := List.exists_mem_of_ne_nil _ hne
      have hr0' := List.mem_filter.mp hr0
      obtain ⟨hr0n, hr0s⟩ := mem_rows.mp hr0'.1
      have hr0e := of_decide_eq_true hr0'.2
      have hsz : ∀ r, r.length = m → ((sizeN i (foldsF ws sh d r) : Nat) : Int) = ((totF i (foldsF ws sh d r) : Nat) : Int) + (m : Int) * ((i : Int) + 1) := fun r hr => by
        unfold sizeN
        rw [folds_len, hr, Int.natCast_add, Int.natCast_mul]
        rfl
      have hflt : ∀ r, ∀ f ∈ foldsF ws sh d r, f < 2 ^ (d - i) * 2 ^ i := fun r f hf => by
        rw [← width_split h2]
        exact folds_lt ws sh r h0 f hf
      obtain ⟨t, ht⟩ : ∃ t, totF i (foldsF ws sh d r0) = t := ⟨_, rfl⟩
      have htot := tot_le (hflt r0)
      rw [folds_len, hr0n, ht] at htot
      have hSe : S = (t : Int) + (m : Int) * ((i : Int) + 1) := by
        rw [← hr0e, hsz r0 hr0n, ht]
      have hfilt : ofSize ws sh d i (allRows d m) S = (allRows d m).filter fun r => decide (totF i (foldsF ws sh d r) = t) := by
        unfold ofSize
        refine List.filter_congr fun r hr => ?_
        have hrn := (mem_rows.mp hr).1
        have e := hsz r hrn
        by_cases c : totF i (foldsF ws sh d r) = t
        · rw [decide_eq_true c, decide_eq_true (by rw [e, c, hSe])]
        · rw [decide_eq_false c, decide_eq_false (by rw [e, hSe]; omega)]
      obtain ⟨ps, p1, p2, p3, p4⟩ := TwosAt.data (K := K) htl hts
      refine ⟨_, rfl, _, rfl, pd, .ref L, rfl, .inl ⟨kvs, Sum.inl S, .inr ⟨od, s4 _ _ hpdF⟩, rfl, hv.symm⟩, ?_⟩
      refine ⟨L, ps, rfl, .inl (.inl (by rw [p1]; exact hL)), p3, fun qs p hperm hpw np => ?_⟩
      have hq : ∀ q ∈ qs, ∃ t r, q = (V.ref t, (intsN (foldsF ws sh d r), r)) ∧ TwoAt ws sh d H5 t r := fun q h => p4 q (hperm.mem_iff.mp h)
      have hrp : (qs.map fun q => q.2.2).Perm ((allRows d m).filter fun r => decide (totF i (foldsF ws sh d r) = t)) := by
        rw [← hfilt]
        have e : (ps.map fun q => q.2.2) = ofSize ws sh d i (allRows d m) S := by
          have := congrArg (List.map Prod.snd) p2
          rw [List.map_map, List.map_map] at this
          refine this.trans ?_
          exact List.map_id _
        rw [← e]
        exact hperm.map _
      have hpw2 : (qs.map fun q => q.2.2).Pairwise fun a b => intsN (foldsF ws sh d a) ≤ intsN (foldsF ws sh d b) := by
        rw [List.pairwise_map]
        refine List.Pairwise.imp_of_mem (fun {a b} ha hb h => ?_) hpw
        obtain ⟨_, _, e1, _⟩ := hq a ha
        obtain ⟨_, _, e2, _⟩ := hq b hb
        rw [e1, e2] at h ⊢
        exact h
      obtain ⟨hlen, hidx⟩ := sorted_at h0 h2 hrp hpw2
      rw [List.length_map] at hlen
      have hql : qs.length ≤ 64 := by
        rw [hperm.length_eq, ← List.length_map (f := Prod.fst), p1, List.length_map, htl]
        exact Nat.le_trans (List.length_filter_le _ _) (by omega)
      obtain ⟨H6, e6, s6, hp6⟩ := fresh (.lst (qs.map Prod.fst)) np
      rw [e6]
      have hP6 : SqL K H6 p (qs.map Prod.fst) := .inl (.inl hp6)
      have sH6 := (sHF.trans s4).trans s6
      have hr4 : d - i < 4 := by omega
      have hSs : ∀ r, totF i (foldsF ws sh d r) = t → r.length = m → ((sizeN i (foldsF ws sh d r) : Nat) : Int) = S := fun r hr hrn => by rw [hsz r hrn, hr, hSe]
      refine ⟨_, rfl, p, _, rfl, .inl hP6, _, rfl, by omega, by rw [List.length_map]; omega, ?_⟩
      rw [List.length_map, Int.toNat_natCast]
      refine for_range (lo := 0) (n := qs.length) (fun k σ H7 => ∃ v5 v9, σ = [some (.ref x), some (.int d), some (.int i), some (.int m), some (.ref pd), v5, some (.int S), v7, some (.ref p), v9] ∧ Same H6 H7) ⟨_, _, rfl, Same.refl _⟩ ?_ ?_
      · rintro k σ H7 hk ⟨v5, v9, rfl, s7⟩
        have hqk : qs[k]? = some qs[k] := List.getElem?_eq_getElem hk
        obtain ⟨ta, r, eq, hT⟩ := hq qs[k] (List.getElem_mem hk)
        obtain ⟨fa, ra, t1, t2, t3⟩ := hT.same (s6.trans s7)
        obtain ⟨hrn, hrs, hrt, hrk⟩ := hidx k r (by rw [List.getElem?_map, hqk, eq]; rfl)
        have hgt : (qs.map Prod.fst)[k]? = some (.ref ta) := by rw [List.getElem?_map, hqk, eq]; rfl
        refine ⟨_, rfl, _, rfl, p, _, _, _, rfl, rfl, s7.seq hP6, at_of (j := k) (by omega) hgt, ?_⟩
        refine ⟨ta, _, _, _, rfl, rfl, .inl (.inl t1), atI_nat (j := 1) rfl, ?_⟩
        have sH7 := sH6.trans s7
        refine ⟨_, rfl, _, rfl, _, rfl, _, rfl, x, ra, ws, sh, d, i, r, rfl, hG.same sH7, .inl t3, by omega, hrs, h0, by omega, h2, hr4, fun H8 pt s8 hpt => ?_⟩
        rw [hSs r hrt hrn, hrk] at hpt
        refine ⟨_, rfl, _, rfl, (show 2 ≤ sizeLine by decide), fun p2 np2 => ?_⟩
        obtain ⟨H9, e9, s9, hp9⟩ := fresh (.tup [V.int S, V.int (0 + (k : Int))]) np2
        rw [e9]
        rw [Int.zero_add] at hp9
        refine ne_tup (ns := [S, (k : Int)]) (.inl (.inl (s9 _ _ hpt))) (.inl (.inl hp9)) ⟨_, rfl, iteF ?_⟩
        have s79 := s8.trans s9
        have hbk := back_folds ws sh d hrs
        refine ⟨_, rfl, _, rfl, _, rfl, _, rfl, _, rfl, _, rfl, x, ws, sh, d, i, m, t, S, 0 + (k : Int), rfl, hSe, hG.same (sH7.trans s79), h0, by omega, h2, hr4, by omega, htot, by omega, .inl ⟨foldsF ws sh d r, by rw [folds_len, hrn], hrt, hflt r, by rw [hrk]; omega, fun H10 p10 s10 np10 hp10 => ?_⟩⟩
        rw [hbk] at hp10
        refine ⟨_, rfl, ne_lst (ns := r) (.inl (.inl hp10)) (.inl (.inl (s10 _ _ (s79 _ _ t3)))) ⟨_, rfl, iteF ?_⟩⟩
        exact ⟨_, _, rfl, (s7.trans s79).trans s10⟩
      · rintro σ H7 ⟨v5, v9, rfl, s7⟩
        have sH7 := sH6.trans s7
        refine ⟨_, rfl, _, rfl, _, rfl, _, rfl, _, rfl, _, rfl, p, _, rfl, .inl (s7.seq hP6), ?_⟩
        rw [List.length_map]
        refine ⟨x, ws, sh, d, i, m, t, S, (qs.length : Int), rfl, hSe, hG.same sH7, h0, by omega, h2, hr4, by omega, htot, Int.natCast_nonneg _, by rw [hlen]; exact Int.le_refl _, ?_, fun H8 s8 => ?_⟩
        · rw [Int.natAbs_natCast]
          exact Nat.lt_of_le_of_lt hql (by decide +kernel)
        · refine ⟨_, rfl, iteF ?_⟩
          exact ⟨_, _, _, _, _, rfl, ((s4.trans s6).trans s7).trans s8⟩
    · rintro σ H4 ⟨v5, v6, v7, v8, v9, rfl, s4⟩
      refine ⟨s4 _ _ hpdF, ?_⟩
      exact q _ (same_over npd (sHF.trans s4))
end
end My

namespace My
open PySem PySem.Spec PyProof.Rows L2 Pre
local macro_rules | `(tactic| walk_at "go") => `(tactic| repeat (first | (with_reducible first | refine iteT ?_ | refine iteF ?_ | refine iteNtt ?_ | refine iteNff ?_ | refine iteET (by omega) ?_ | refine iteEF (by omega) ?_ | refine iteENT (by omega) ?_ | refine iteENF (by omega) ?_ | refine iteDT (by omega) ?_ | refine iteDF (by omega) ?_ | refine iteNT (by omega) ?_ | refine iteNF (by omega) ?_) | refine ⟨_, rfl, ?_⟩ | refine ⟨_, _, rfl, rfl, ?_⟩ | refine ⟨_, _, rfl, ?_⟩ | refine ⟨rfl, ?_⟩ | refine .inl ⟨_, rfl, ?_⟩ | refine .inr ⟨_, rfl, ?_⟩))
local macro_rules | `(tactic| walk_at "b") => `(tactic| try dsimp (config := { proj := false, iota := false, eta := false, zeta := false }) only)
section
variable {P : Program} {w : World} {K : PySem.W.Frag} {mg : Str → Option Value} {base : Heap} [pf : Sup.PF P fileS]
def sp_law (K : PySem.W.Frag) : Sp := fun vs H Q _ => ∃ (a : Addr) (ns : List Int), vs = [.ref a] ∧ SqL K H a (ns.map V.int) ∧ ns.length ≤ 63 ∧ ∀ H', Q (.bl true) H'
theorem G_law (T : Top K mg) : FnG P w K mg base CX0 10 T.f_law T.fd_law ["_law_script"] (sp_law K) := by
  refine FnG.body T.F_law sc_law (fun vs H Q E h => by obtain ⟨a, ns, rfl, _⟩ := h; rfl) (fun cdv A outer s H vs Q E gd hr h => ?_)
  obtain ⟨a, ns, rfl, hS, hn, q⟩ := h
  refine ⟨_, PSs.nox (pss_cons (ps_for PassesOwn.never rfl (pi_range1 (by rfl) T.n_range (pa_cons pe_int pa_nil)) (pg_name (i := 1) sc_law.nd rfl (by first | exact Or.inl rfl | exact Or.inr rfl))
    (pss_cons (ps_set (i := 2) sc_law.nd rfl (by first | exact Or.inl rfl | exact Or.inr rfl) (pe_call (G_law_generator (P := P) T) (hr.mono (by decide)) (by rfl) T.g_law_generator T.F_law_generator.kp T.b_law_generator .nil pass0 (pa_cons (pv 0) (pa_cons (pv 1) pa_nil))))
  (pss_cons (ps_set (i := 3) sc_law.nd rfl (by first | exact Or.inl rfl | exact Or.inr rfl) (pe_make T.mk_Guesser (G_Guesser___init__ (P := P) T) (hr.mono (by decide)) (by rfl) T.gc_Guesser T.b_Guesser___init__ .nil pass0 (pa_cons (pe_call (G_law_weights (P := P) T) (hr.mono (by decide)) (by rfl) T.g_law_weights T.F_law_weights.kp T.b_law_weights .nil pass0 (pa_cons (pv 2) (pa_cons (pe_call (G_law_random (P := P) T) (hr.mono (by decide)) (by rfl) T.g_law_random T.F_law_random.kp T.b_law_random .nil pass0 (pa_cons (pv 2) (pa_cons pe_int pa_nil))) pa_nil))) (pa_cons (pe_call (G_law_random (P := P) T) (hr.mono (by decide)) (by rfl) T.g_law_random T.F_law_random.kp T.b_law_random .nil pass0 (pa_cons (pv 2) (pa_cons pe_int pa_nil))) pa_nil))))
  (pss_cons (ps_set (i := 4) sc_law.nd rfl (by first | exact Or.inl rfl | exact Or.inr rfl) (pe_op op_add pe_int (pe_call (G_law_random (P := P) T) (hr.mono (by decide)) (by rfl) T.g_law_random T.F_law_random.kp T.b_law_random .nil pass0 (pa_cons (pv 2) (pa_cons pe_int pa_nil)))))
  (pss_cons (ps_set (i := 5) sc_law.nd rfl (by first | exact Or.inl rfl | exact Or.inr rfl) (pe_call (G_law_random (P := P) T) (hr.mono (by decide)) (by rfl) T.g_law_random T.F_law_random.kp T.b_law_random .nil pass0 (pa_cons (pv 2) (pa_cons (pe_op op_add (pv 4) pe_int) pa_nil))))
  (pss_cons (ps_if (pt_not (pt_val (pe_callG (G_law_all_right (P := P) T) gd (hr.mono (by decide)) (by rfl) T.g_law_all_right T.F_law_all_right.kp T.b_law_all_right .nil pass0 (pa_cons (pv 3) (pa_cons (pv 4) (pa_cons (pv 5) (pa_cons (pe_call (G_law_random (P := P) T) (hr.mono (by decide)) (by rfl) T.g_law_random T.F_law_random.kp T.b_law_random .nil pass0 (pa_cons (pv 2) (pa_cons pe_int pa_nil))) pa_nil)))))))
    (pss_one (ps_ret pe_bl))
    pss_nil)
  (pss_one (ps_if (pt_not (pt_val (pe_callG (G_law_long_right (P := P) T) gd (hr.mono (by decide)) (by rfl) T.g_law_long_right T.F_law_long_right.kp T.b_law_long_right .nil pass0 (pa_cons (pv 2) (pa_cons (pv 3) pa_nil)))))
    (pss_one (ps_ret pe_bl))
    pss_nil))))))))
  (pss_one (ps_ret pe_bl))), ?_⟩
  refine ⟨_, rfl, by decide, by decide, ?_⟩
  refine for_range (lo := 0) (n := 2) (fun i σ H1 => ∃ v1 v2 v3 v4 v5, σ = [some (.ref a), v1, v2, v3, v4, v5] ∧ Same H H1) ⟨none, none, none, none, none, rfl, Same.refl _⟩ ?_ ?_
  · rintro i σ H1 hi ⟨v1, v2, v3, v4, v5, rfl, s1⟩
    refine ⟨_, rfl, _, rfl, a, ns, i, ?_, s1.seq hS, fun H2 g s2 ng g2 => ?_⟩
    · show [V.ref a, V.int (0 + (i : Int))] = _
      rw [Int.zero_add]
    refine ⟨_, rfl, _, rfl, g, _, _, rfl, g2, by omega, by decide, small_2900 (by decide), fun r1 H3 r10 r11 g3 b3 => ?_⟩
    obtain ⟨m1, rfl⟩ : ∃ z : Nat, r1 = (z : Int) := ⟨r1.toNat, by omega⟩
    refine ⟨g, m1, _, rfl, g3, by omega, by omega, fun H4 pw ws b4 npw hpw g4 hW hwl => ?_⟩
    refine ⟨_, rfl, g, _, _, rfl, g4, by omega, by decide, small_2900 (by decide), fun r2 H5 r20 r21 g5 b5 => ?_⟩
    obtain ⟨sh, rfl⟩ : ∃ z : Nat, r2 = (z : Int) := ⟨r2.toNat, by omega⟩
    intro x dx nx ndx nex
    have npwg : pw ≠ g := g3.ne npw
    have hpw5 : H5 pw = some (.lst (ws.map V.int)) := b5 _ _ npwg hpw
    have s5x : Same H5 (upd (upd H5 dx (.own x)) x (.ins T.C_Guesser dx [])) := fun b o e => by
      rw [upd_ne (ne_of_none e nx), upd_ne (ne_of_none e ndx)]
      exact e
    refine ⟨x, pw, dx, ws, sh, rfl, upd_same, .inl (s5x _ _ hpw5), hW, by omega, fun H6 kp6 hG6 hk6 => ⟨rfl, ?_⟩⟩
    have s56 : Same H5 H6 := fun b o e => kp6 b o (ne_of_none e nx) (s5x b o e)
    have g6 := g5.same s56
    have hB6 : GuesserBut T.C_Guesser g H6 x ws sh := GuesserBut.of (g5.same s5x) (g5.ne nx) hG6 hk6
    refine ⟨_, rfl, g, _, _, rfl, g6, by omega, by decide, small_2900 (by decide), fun r3 H7 r30 r31 g7 b7 => ?_⟩
    refine ⟨_, _, rfl, rfl, ?_⟩
    obtain ⟨d, hd⟩ : ∃ d : Nat, 1 + r3 = (d : Int) := ⟨(1 + r3).toNat, by omega⟩
    dsimp only
    rw [hd]
    refine ⟨_, rfl, _, rfl, _, _, rfl, rfl, g, _, _, rfl, g7, by omega, by omega, small_2900 (by omega), fun r4 H8 r40 r41 g8 b8 => ?_⟩
    obtain ⟨v, rfl⟩ : ∃ v : Nat, r4 = (v : Int) := ⟨r4.toNat, by omega⟩
    refine ⟨_, rfl, _, rfl, _, rfl, _, rfl, g, _, _, rfl, g8, by omega, by decide, small_2900 (by decide), fun r5 H9 r50 r51 g9 b9 => ?_⟩
    obtain ⟨m, rfl⟩ : ∃ m : Nat, r5 = (m : Int) := ⟨r5.toNat, by omega⟩
    have hB9 := ((hB6.but b7).but b8).but b9
    refine ⟨x, ws, sh, d, v, m, rfl, hB9 _ But.refl, by omega, by omega, by omega, by omega, fun H10 s10 => ?_⟩
    refine ⟨_, rfl, iteF ?_⟩
    have g10 := g9.same s10
    have hB10 := hB9.but (But.of s10)
    refine ⟨_, rfl, _, rfl, g, x, ws, sh, _, rfl, g10, by omega, hB10, fun H11 b11 g11 => ?_⟩
    refine ⟨_, rfl, iteF ?_⟩
    have b2 : But g H2 H11 := ((((((((b3.trans b4).trans b5).same s56).trans b7).trans b8).trans b9).same s10).trans b11)
    exact ⟨_, _, _, _, _, rfl, s1.trans (But.fresh s2 ng b2)⟩
  · rintro σ H1 ⟨v1, v2, v3, v4, v5, rfl, s1⟩
    exact q _
end
end My

open PySem PySem.W PySem.Calls PyProof.Rows
set_option maxRecDepth 100000 in
set_option maxHeartbeats 0 in
theorem PySem.Challenge.cw_wholesound_k51_rows_by_their_numbers_holds : PySem.Challenge.rw_wholesound_k51_rows_by_their_numbers.Holds := by
  w_on; o_law
  refine HandSHeadRun.head_any (r := OpenLaw.row PySem.Challenge.rw_wholesound_k51_rows_by_their_numbers) (q := view (OpenLaw.row PySem.Challenge.rw_wholesound_k51_rows_by_their_numbers).prog [60]) (H := My.hk) (ob := My.ob) (M := 8000) (loose := My.loose) (d := HandSHeadRun.topDef (OpenLaw.row PySem.Challenge.rw_wholesound_k51_rows_by_their_numbers).prog 60) (kwd := []) My.ob_eq
    (by kernel_rfl) (fun s => by kernel_rfl) My.run (by kernel_rfl) (by kernel_rfl) (by kernel_rfl) (by rfl) (by first | assumption | decide +kernel) (by decide +kernel) ⟨rfl, rfl, rfl, rfl, rfl, by decide +kernel⟩ ?hw ?hc
  case hw => w_witness2
  case hc =>
    refine My.end_g (l := PySem.Challenge.rw_wholesound_k51_rows_by_their_numbers) (n := 63) (k := 10) (x := "_law_script") rfl (by decide) (by kernel_rfl) ⟨rfl, by decide, by decide⟩ ?F
    intro w mg fa h Y G hmg0
    obtain ⟨K, KX, c⟩ := Y
    have hmg : mg ("law" : PySem.Str) = some (.ref fa) := by
      have e : (HandSHeadRun.topDef (OpenLaw.row PySem.Challenge.rw_wholesound_k51_rows_by_their_numbers).prog 60).name = ("law" : PySem.Str) := by kernel_rfl
      rw [← e]
      exact hmg0
    have T : My.Top K mg := My.top_mk KX G c
    have e := hmg.symm.trans T.g_law
    cases e
    have b := L2.FunD.bindsA (ps := ["_law_script"]) T.F_law fun _ _ _ _ _ _ us hl => match us, hl with | [_], _ => rfl
    exact ⟨K, T.fd_law, My.sp_law K, KX, fun s v => b s [v] rfl, fun H a ns hl hS => ⟨a, ns, rfl, hS, hl, fun _ => rfl⟩, fun base _ _ => My.G_law (pf := ⟨by kernel_rfl, by kernel_rfl⟩) T⟩


