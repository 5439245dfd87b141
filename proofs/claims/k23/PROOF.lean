import PyProof.Rows.All
import Wide.All
import OpenK.AllK
import Wide.FinOn
import KE.KStateDown
import Lean
import HandS.ForMost
import HandS.Exc
import HandS.Flow
import HandS.DictComp
import HandS.Style
import HandS.Wide
import HandS.WideBits
import HandS.IsInst
import HandS.Codes
import HandS.Walk
import HandS.Words
import HandS.WordsExc
import HandS.Defaults
import HandS.Head0
import HandS.Head1
import HandS.Head2
import HandS.HeadEnd
import HandS.HeadHook1
import HandS.HeadHook2
import HandS.SortInts
import PyProof.Rows.SortShellAny
import PyProof.InstNe
import KE.DataMinMax
import KE.SortData
import KE.IntBitsLaws
import KE.BitLaws
import HandS.Deep
import HandS.SetKeys
import PyProof.Rows.StrMul
import HandS.TupLe
import HandS.Property
import HandS.Conv
import HandS.NoneIn
import HandS.SetFor
import HandS.Strs
import HandS.Sort
import HandS.StrMore
import HandS.ExcInit
import HandS.ExcSuper
import HandS.Nested
import KE.KExcSuper
import HandS.ExcField
import HandS.TryMany
import HandS.ExcIs
import HandS.TryOnly
import HandS.CallSlots
import KE.KDictDisplayH
import PyProof.StrLawsFirst
import KE.GoesZip
import KE.GoesMore
import HandS.Zip
import PyProof.CallType
import PyProof.ZipIter
import PyProof.TupleIter
import PyProof.Rows.CallKwBuiltin
import HandS.Star
import HandS.TupLen
import PySem.Challenge.RW_wholesound_k23_firsts_that_return
set_option Elab.async false
set_option linter.all false
set_option maxRecDepth 100000
set_option maxHeartbeats 4000000
set_option exponentiation.threshold 100000
namespace Pre
open PySem PySem.Spec PyProof.Rows L2
/-! ### heaps -/
theorem same_upd {H : Hp} {p : Addr} {o : HO} (h : H p = none) : Same H (upd H p o) := fun b x e => by
  rw [upd_ne (ne_of_none e h)]
  exact e
/-- a fresh thing that is then changed is no change of what was -/
theorem same_over {H H' : Hp} {p : Addr} {o : HO} (n : H p = none) (s : Same H H') : Same H (upd H' p o) := fun b x e => by
  rw [upd_ne (ne_of_none e n)]
  exact s b x e
theorem Same.tup {K : PySem.W.Frag} {H H' : Hp} {a : Addr} {xs : List V} (e : Same H H') (h : SqT K H a xs) : SqT K H' a xs := by
  rcases h with (h | ⟨o, h⟩) | h
  · exact .inl (.inl (e _ _ h))
  · exact .inl (.inr ⟨o, e _ _ h⟩)
  · exact .inr h
mutual
theorem dp_same {K : PySem.W.Frag} {H H' : Hp} (s : Same H H') : ∀ (d : PyData) (v : V), Dp K H v d → Dp K H' v d
  | .none, _, h => by cases h; exact .non
  | .bool _, _, h => by cases h; exact .bl _
  | .int _, _, h => by cases h; exact .int _
  | .str _, _, h => by cases h; exact .str _
  | .list ds, _, h => by cases h with | lst a b => exact .lst (s.seq a) (dps_same s ds _ b)
  | .tuple ds, _, h => by cases h with | tup a b => exact .tup (Same.tup s a) (dps_same s ds _ b)
  | .dict _, _, h => nomatch h
theorem dps_same {K : PySem.W.Frag} {H H' : Hp} (s : Same H H') : ∀ (ds : List PyData) (vs : List V), DpAll K H vs ds → DpAll K H' vs ds
  | [], _, h => by cases h; exact .nil
  | d :: ds, _, h => by cases h with | cons a b => exact .cons (dp_same s d _ a) (dps_same s ds _ b)
end
theorem dp_ints {K : PySem.W.Frag} {H : Hp} : ∀ ns : List Int, DpAll K H (ns.map V.int) (ns.map PyData.int)
  | [] => .nil
  | n :: r => .cons (.int n) (dp_ints r)
theorem eqv_ints : ∀ ns ms : List Int, PyData.eqvAll (ns.map PyData.int) (ms.map PyData.int) = decide (ns = ms)
  | [], [] => rfl
  | [], _ :: _ => rfl
  | _ :: _, [] => rfl
  | n :: r, m :: q => by
    show (PyData.eqv (.int n) (.int m) && PyData.eqvAll (r.map PyData.int) (q.map PyData.int)) = decide (n :: r = m :: q)
    rw [eqv_ints r q]
    show ((n == m) && decide (r = q)) = decide (n :: r = m :: q)
    by_cases h : n = m
    · subst h; simp
    · simp [h]
theorem lay_ints : ∀ ns : List Int, PyData.canLayAll0 (ns.map PyData.int) = true
  | [] => rfl
  | n :: r => by
    show (PyData.canLay0 (.int n) && PyData.canLayAll0 (r.map PyData.int)) = true
    rw [lay_ints r]
    rfl
theorem depth_ints : ∀ ns : List Int, PyData.depthAll (ns.map PyData.int) = 0
  | [] => by simp [PyData.depthAll]
  | n :: r => by
    show PyData.depthAll (.int n :: r.map PyData.int) = 0
    rw [PyData.depthAll, depth_ints r]
    simp [PyData.depth]
theorem shaped_ints (ns : List Int) : SeqAt.shaped (.list (ns.map PyData.int)) = true := by
  unfold SeqAt.shaped
  rw [PyData.canLay0, lay_ints, PyData.depth, depth_ints]
  rfl
theorem shaped_tup (ns : List Int) : SeqAt.shaped (.tuple (ns.map PyData.int)) = true := by
  unfold SeqAt.shaped
  rw [PyData.canLay0, lay_ints, PyData.depth, depth_ints]
  rfl
/-! ### comparisons of lists and tuples of whole numbers that are told alike -/
theorem ne_tup {K : PySem.W.Frag} {H : Hp} {a b : Addr} {ns : List Int} {Q : V → Hp → Prop} (ha : SqT K H a (ns.map V.int)) (hb : SqT K H b (ns.map V.int)) (q : Q (.bl false) H) : rNeD K (.ref a) (.ref b) H Q := by
  refine ⟨.tuple (ns.map PyData.int), .tuple (ns.map PyData.int), .tup ha (dp_ints ns), .tup hb (dp_ints ns), shaped_tup ns, shaped_tup ns, ?_⟩
  rw [PyData.eqv, eqv_ints, decide_eq_true rfl]
  exact q
theorem eq_tup {K : PySem.W.Frag} {H : Hp} {a b : Addr} {ns : List Int} {Q : V → Hp → Prop} (ha : SqT K H a (ns.map V.int)) (hb : SqT K H b (ns.map V.int)) (q : Q (.bl true) H) : rEqD K (.ref a) (.ref b) H Q := by
  refine ⟨.tuple (ns.map PyData.int), .tuple (ns.map PyData.int), .tup ha (dp_ints ns), .tup hb (dp_ints ns), shaped_tup ns, shaped_tup ns, ?_⟩
  rw [PyData.eqv, eqv_ints, decide_eq_true rfl]
  exact q
/-- lists of whole numbers, compared -/
theorem eqD_lst {K : PySem.W.Frag} {H : Hp} {a b : Addr} {ns ms : List Int} {Q : V → Hp → Prop} (ha : SqL K H a (ns.map V.int)) (hb : SqL K H b (ms.map V.int)) (q : Q (.bl (decide (ns = ms))) H) : rEqD K (.ref a) (.ref b) H Q := by
  refine ⟨.list (ns.map PyData.int), .list (ms.map PyData.int), .lst ha (dp_ints ns), .lst hb (dp_ints ms), shaped_ints ns, shaped_ints ms, ?_⟩
  rw [PyData.eqv, eqv_ints]
  exact q
theorem neD_lst {K : PySem.W.Frag} {H : Hp} {a b : Addr} {ns ms : List Int} {Q : V → Hp → Prop} (ha : SqL K H a (ns.map V.int)) (hb : SqL K H b (ms.map V.int)) (q : Q (.bl (!decide (ns = ms))) H) : rNeD K (.ref a) (.ref b) H Q := by
  refine ⟨.list (ns.map PyData.int), .list (ms.map PyData.int), .lst ha (dp_ints ns), .lst hb (dp_ints ms), shaped_ints ns, shaped_ints ms, ?_⟩
  rw [PyData.eqv, eqv_ints]
  exact q
theorem ne_lst {K : PySem.W.Frag} {H : Hp} {a b : Addr} {ns : List Int} {Q : V → Hp → Prop} (ha : SqL K H a (ns.map V.int)) (hb : SqL K H b (ns.map V.int)) (q : Q (.bl false) H) : rNeD K (.ref a) (.ref b) H Q :=
  neD_lst ha hb (by rw [decide_eq_true rfl]; exact q)
theorem eq_lst {K : PySem.W.Frag} {H : Hp} {a b : Addr} {ns : List Int} {Q : V → Hp → Prop} (ha : SqL K H a (ns.map V.int)) (hb : SqL K H b (ns.map V.int)) (q : Q (.bl true) H) : rEqD K (.ref a) (.ref b) H Q :=
  eqD_lst ha hb (by rw [decide_eq_true rfl]; exact q)
/-! ### powers -/
def CPowW (i j : Int) : Prop := 0 ≤ j ∧ (Builtin.Int.intBits i : Int) * j ≤ 2 ^ 27
theorem op_powW {X : Cx} : OpR X (binaryOp .Pow) (rI CPowW fun i j => .int (i ^ j.toNat)) := opI fun _ _ _ _ _ _ _ hc q => pow_int hc.1 hc.2 q
/-! ### comprehensions whose parts leave what is tracked as it is: sel tells of each item what comes of it -/
theorem take_fm {α : Type} {l : List (Option α)} {i : Nat} {o : Option α} (h : l[i]? = some o) : (l.take (i + 1)).filterMap id = (l.take i).filterMap id ++ o.toList := by
  rw [List.take_add_one, h, List.filterMap_append]
  cases o <;> rfl
theorem fm_len {α : Type} (l : List (Option α)) (i : Nat) : ((l.take i).filterMap id).length ≤ l.length :=
  Nat.le_trans (List.length_filterMap_le _ _) (by rw [List.length_take]; omega)
theorem lc_selL {K : PySem.W.Frag} {a : Addr} {xs : List V} {j : Nat} {tt : TT} {te : TE} {vs : List Nat} {σ : L2.St} {H1 : Hp} {D : Addr} {Qd : Hp → Prop} (sel : List (Option V)) (nD : H1 D = none) (hS : SqL K H1 a xs) (hlen : sel.length = xs.length) (hz : xs.length < sizeLine)
    (hw : ∀ x, wipe ((wipe σ vs).set j (some x)) vs = wipe σ vs)
    (hs : ∀ (i : Nat) (x : V) (o : Option V) (H' : Hp), xs[i]? = some x → sel[i]? = some o → Same H1 H' → ∀ Qt : Option V → Hp → Prop, (∀ H'', Same H' H'' → Qt o H'') →
      tt ((wipe σ vs).set j (some x)) H' fun b H3 => if b = true then te ((wipe σ vs).set j (some x)) H3 fun y H4 => Qt (some y) H4 else Qt none H3)
    (hd : ∀ H', Same H1 H' → H' D = some (.lst (sel.filterMap id)) → Qd H') :
    ∃ W : Nat → Nat → Hp → Prop, (∃ m, W 0 m (upd H1 D (.lst []))) ∧ ∀ i m H, W i m H →
      ((Itl K a).stop i H ∧ Qd H) ∨ ((Itl K a).go i H ∧ ∃ Nx : Hp → Prop, (∀ H', Nx H' → ∃ m', m' < m ∧ W (i + 1) m' H') ∧ ∀ x H', (Itl K a).yld i H x H' → gName j x (wipe σ vs) H' fun σ2 H2 => wipe σ2 vs = wipe σ vs ∧ tt σ2 H2 fun b H3 =>
        if b = true then te σ2 H3 fun y H4 => ∃ acc, H4 D = some (.lst acc) ∧ acc.length < sizeLine ∧ Nx (upd H4 D (.lst (acc ++ [y]))) else Nx H3) := by
  refine lc_list (K := K) (a := a) (xs := xs) (fun i H => Same H1 H ∧ H D = some (.lst ((sel.take i).filterMap id))) ⟨same_upd nD, upd_same⟩ (fun i H _ p => p.1.seq hS) ?_ ?_
  · rintro i x H hx ⟨s, hD⟩
    refine ⟨hw x, ?_⟩
    have hi : i < sel.length := by rw [hlen]; exact (List.getElem?_eq_some_iff.mp hx).1
    have ho : sel[i]? = some sel[i] := List.getElem?_eq_getElem hi
    have hl : ((sel.take i).filterMap id).length < sizeLine := Nat.lt_of_le_of_lt (fm_len sel i) (by omega)
    refine hs i x sel[i] H hx ho s (fun o H4 => match o with
      | some y => ∃ acc, H4 D = some (.lst acc) ∧ acc.length < sizeLine ∧ (Same H1 (upd H4 D (.lst (acc ++ [y]))) ∧ (upd H4 D (.lst (acc ++ [y]))) D = some (.lst ((sel.take (i + 1)).filterMap id)))
      | none => Same H1 H4 ∧ H4 D = some (.lst ((sel.take (i + 1)).filterMap id))) fun H4 s4 => ?_
    generalize sel[i] = o at ho ⊢
    cases o with
    | some y =>
      refine ⟨_, s4 _ _ hD, hl, same_over nD (s.trans s4), ?_⟩
      rw [upd_same, take_fm ho]
      rfl
    | none =>
      refine ⟨s.trans s4, ?_⟩
      rw [take_fm ho, s4 _ _ hD]
      simp
  · rintro H ⟨s, hD⟩
    refine hd H s ?_
    rw [hD, ← hlen, List.take_length]
theorem lc_selR {lo : Int} {n : Nat} {j : Nat} {tt : TT} {te : TE} {vs : List Nat} {σ : L2.St} {H1 : Hp} {D : Addr} {Qd : Hp → Prop} (sel : List (Option V)) (nD : H1 D = none) (hlen : sel.length = n) (hz : n < sizeLine)
    (hw : ∀ x, wipe ((wipe σ vs).set j (some x)) vs = wipe σ vs)
    (hs : ∀ (i : Nat) (o : Option V) (H' : Hp), i < n → sel[i]? = some o → Same H1 H' → ∀ Qt : Option V → Hp → Prop, (∀ H'', Same H' H'' → Qt o H'') →
      tt ((wipe σ vs).set j (some (.int (lo + (i : Int))))) H' fun b H3 => if b = true then te ((wipe σ vs).set j (some (.int (lo + (i : Int))))) H3 fun y H4 => Qt (some y) H4 else Qt none H3)
    (hd : ∀ H', Same H1 H' → H' D = some (.lst (sel.filterMap id)) → Qd H') :
    ∃ W : Nat → Nat → Hp → Prop, (∃ m, W 0 m (upd H1 D (.lst []))) ∧ ∀ i m H, W i m H →
      ((Itr lo n).stop i H ∧ Qd H) ∨ ((Itr lo n).go i H ∧ ∃ Nx : Hp → Prop, (∀ H', Nx H' → ∃ m', m' < m ∧ W (i + 1) m' H') ∧ ∀ x H', (Itr lo n).yld i H x H' → gName j x (wipe σ vs) H' fun σ2 H2 => wipe σ2 vs = wipe σ vs ∧ tt σ2 H2 fun b H3 =>
        if b = true then te σ2 H3 fun y H4 => ∃ acc, H4 D = some (.lst acc) ∧ acc.length < sizeLine ∧ Nx (upd H4 D (.lst (acc ++ [y]))) else Nx H3) := by
  refine lc_range (lo := lo) (n := n) (fun i H => Same H1 H ∧ H D = some (.lst ((sel.take i).filterMap id))) ⟨same_upd nD, upd_same⟩ ?_ ?_
  · rintro i H hi' ⟨s, hD⟩
    refine ⟨hw _, ?_⟩
    have hi : i < sel.length := by rw [hlen]; exact hi'
    have ho : sel[i]? = some sel[i] := List.getElem?_eq_getElem hi
    have hl : ((sel.take i).filterMap id).length < sizeLine := Nat.lt_of_le_of_lt (fm_len sel i) (by omega)
    refine hs i sel[i] H hi' ho s (fun o H4 => match o with
      | some y => ∃ acc, H4 D = some (.lst acc) ∧ acc.length < sizeLine ∧ (Same H1 (upd H4 D (.lst (acc ++ [y]))) ∧ (upd H4 D (.lst (acc ++ [y]))) D = some (.lst ((sel.take (i + 1)).filterMap id)))
      | none => Same H1 H4 ∧ H4 D = some (.lst ((sel.take (i + 1)).filterMap id))) fun H4 s4 => ?_
    generalize sel[i] = o at ho ⊢
    cases o with
    | some y =>
      refine ⟨_, s4 _ _ hD, hl, same_over nD (s.trans s4), ?_⟩
      rw [upd_same, take_fm ho]
      rfl
    | none =>
      refine ⟨s.trans s4, ?_⟩
      rw [take_fm ho, s4 _ _ hD]
      simp
  · rintro H ⟨s, hD⟩
    refine hd H s ?_
    rw [hD, ← hlen, List.take_length]
theorem fm_some {α : Type} (ys : List α) : (ys.map some).filterMap id = ys := by
  rw [List.filterMap_map]
  show List.filterMap (fun y => some y) ys = ys
  exact List.filterMap_some
/-- no test: ys tells what comes of each item -/
theorem lc_mapL {K : PySem.W.Frag} {a : Addr} {xs : List V} {j : Nat} {te : TE} {vs : List Nat} {σ : L2.St} {H1 : Hp} {D : Addr} {Qd : Hp → Prop} (ys : List V) (nD : H1 D = none) (hS : SqL K H1 a xs) (hlen : ys.length = xs.length) (hz : xs.length < sizeLine)
    (hw : ∀ x, wipe ((wipe σ vs).set j (some x)) vs = wipe σ vs)
    (hs : ∀ (i : Nat) (x y : V) (H' : Hp), xs[i]? = some x → ys[i]? = some y → Same H1 H' → ∀ Qt : V → Hp → Prop, (∀ H'', Same H' H'' → Qt y H'') → te ((wipe σ vs).set j (some x)) H' Qt)
    (hd : ∀ H', Same H1 H' → H' D = some (.lst ys) → Qd H') :
    ∃ W : Nat → Nat → Hp → Prop, (∃ m, W 0 m (upd H1 D (.lst []))) ∧ ∀ i m H, W i m H →
      ((Itl K a).stop i H ∧ Qd H) ∨ ((Itl K a).go i H ∧ ∃ Nx : Hp → Prop, (∀ H', Nx H' → ∃ m', m' < m ∧ W (i + 1) m' H') ∧ ∀ x H', (Itl K a).yld i H x H' → gName j x (wipe σ vs) H' fun σ2 H2 => wipe σ2 vs = wipe σ vs ∧ tYes σ2 H2 fun b H3 =>
        if b = true then te σ2 H3 fun y H4 => ∃ acc, H4 D = some (.lst acc) ∧ acc.length < sizeLine ∧ Nx (upd H4 D (.lst (acc ++ [y]))) else Nx H3) := by
  refine lc_selL (K := K) (a := a) (xs := xs) (tt := tYes) (ys.map some) nD hS (by rw [List.length_map]; exact hlen) hz hw ?_ ?_
  · intro i x o H' hx ho s Qt qt
    rw [List.getElem?_map] at ho
    obtain ⟨y, hy, rfl⟩ := Option.map_eq_some_iff.mp ho
    show if true = true then te ((wipe σ vs).set j (some x)) H' (fun y H4 => Qt (some y) H4) else Qt none H'
    exact iteT (hs i x y H' hx hy s (fun y H4 => Qt (some y) H4) qt)
  · intro H' s hD
    rw [fm_some] at hD
    exact hd H' s hD
theorem lc_mapR {lo : Int} {n : Nat} {j : Nat} {te : TE} {vs : List Nat} {σ : L2.St} {H1 : Hp} {D : Addr} {Qd : Hp → Prop} (ys : List V) (nD : H1 D = none) (hlen : ys.length = n) (hz : n < sizeLine)
    (hw : ∀ x, wipe ((wipe σ vs).set j (some x)) vs = wipe σ vs)
    (hs : ∀ (i : Nat) (y : V) (H' : Hp), i < n → ys[i]? = some y → Same H1 H' → ∀ Qt : V → Hp → Prop, (∀ H'', Same H' H'' → Qt y H'') → te ((wipe σ vs).set j (some (.int (lo + (i : Int))))) H' Qt)
    (hd : ∀ H', Same H1 H' → H' D = some (.lst ys) → Qd H') :
    ∃ W : Nat → Nat → Hp → Prop, (∃ m, W 0 m (upd H1 D (.lst []))) ∧ ∀ i m H, W i m H →
      ((Itr lo n).stop i H ∧ Qd H) ∨ ((Itr lo n).go i H ∧ ∃ Nx : Hp → Prop, (∀ H', Nx H' → ∃ m', m' < m ∧ W (i + 1) m' H') ∧ ∀ x H', (Itr lo n).yld i H x H' → gName j x (wipe σ vs) H' fun σ2 H2 => wipe σ2 vs = wipe σ vs ∧ tYes σ2 H2 fun b H3 =>
        if b = true then te σ2 H3 fun y H4 => ∃ acc, H4 D = some (.lst acc) ∧ acc.length < sizeLine ∧ Nx (upd H4 D (.lst (acc ++ [y]))) else Nx H3) := by
  refine lc_selR (lo := lo) (n := n) (tt := tYes) (ys.map some) nD (by rw [List.length_map]; exact hlen) hz hw ?_ ?_
  · intro i o H' hi ho s Qt qt
    rw [List.getElem?_map] at ho
    obtain ⟨y, hy, rfl⟩ := Option.map_eq_some_iff.mp ho
    show if true = true then te ((wipe σ vs).set j (some (.int (lo + (i : Int))))) H' (fun y H4 => Qt (some y) H4) else Qt none H'
    exact iteT (hs i y H' hi hy s (fun y H4 => Qt (some y) H4) qt)
  · intro H' s hD
    rw [fm_some] at hD
    exact hd H' s hD
/-- an item of a list of whole numbers -/
theorem int_at {ns : List Int} {i : Nat} {x : V} (h : (ns.map V.int)[i]? = some x) : ∃ n, ns[i]? = some n ∧ x = .int n := by
  rw [List.getElem?_map] at h
  obtain ⟨n, hn, e⟩ := Option.map_eq_some_iff.mp h
  exact ⟨n, hn, e.symm⟩
/-! ### rules with the written part named (within a comprehension Lean doesn't find it) -/
section
variable {X : Cx}
theorem k_len (K : PySem.W.Frag) (h : X.K = K) : CallR X (.builtin "len") (fun xs H Q => ∃ p ys, xs = [.ref p] ∧ (SqL K H p ys ∨ SqT K H p ys) ∧ Q (.int ys.length) H) := by subst h; exact call_len_seq
theorem k_sum (K : PySem.W.Frag) (h : X.K = K) (hc : X.calm = true) : CallR X (.builtin "sum") (rSum K) := by subst h; exact cr_sum hc
theorem k_max (K : PySem.W.Frag) (h : X.K = K) (hc : X.calm = true) : CallR X (.builtin "max") (rMax K) := by subst h; exact cr_max hc
theorem k_min (K : PySem.W.Frag) (h : X.K = K) (hc : X.calm = true) : CallR X (.builtin "min") (rMin K) := by subst h; exact cr_min hc
theorem k_isi (K : PySem.W.Frag) (h : X.K = K) : CallR X (.builtin "isinstance") (rIsi K) := by subst h; exact call_isi
theorem k_listOf (K : PySem.W.Frag) (h : X.K = K) : CallR X (.type "list") (fun xs H Q => ∃ p ys, xs = [.ref p] ∧ (SqL K H p ys ∨ SqT K H p ys) ∧ ∀ l, H l = none → Q (.ref l) (upd H l (.lst ys))) := by subst h; exact call_list_of
theorem k_tupleOf (K : PySem.W.Frag) (h : X.K = K) : CallR X (.type "tuple") (fun xs H Q => ∃ p ys, xs = [.ref p] ∧ ((SqL K H p ys ∧ ∀ l, H l = none → Q (.ref l) (upd H l (.tup ys))) ∨ (SqT K H p ys ∧ Q (.ref p) H))) := by subst h; exact call_tuple_of
theorem k_ixL (K : PySem.W.Frag) (h : X.K = K) : IxR X (rIxL K) := by subst h; exact ix_list
theorem k_ixT (K : PySem.W.Frag) (h : X.K = K) : IxR X (rIxT K) := by subst h; exact ix_tup
theorem k_slL (K : PySem.W.Frag) (h : X.K = K) : SlR X (rSlL K) := by subst h; exact sl_list
theorem k_slT (K : PySem.W.Frag) (h : X.K = K) : SlR X (rSlT K) := by subst h; exact sl_tup
theorem k_eqD (K : PySem.W.Frag) (h : X.K = K) (hu : X.A.units + 64 < cLine) : OpR X (compareOp .Eq) (rEqD K) := by subst h; exact op_eqD hu
theorem k_neD (K : PySem.W.Frag) (h : X.K = K) (hu : X.A.units + 64 < cLine) : OpR X (compareOp .NotEq) (rNeD K) := by subst h; exact op_neD hu
theorem k_in (K : PySem.W.Frag) (h : X.K = K) : OpR X (compareOp .In) (rIn K false) := by subst h; exact op_in_seq
theorem k_notIn (K : PySem.W.Frag) (h : X.K = K) : OpR X (compareOp .NotIn) (rIn K true) := by subst h; exact op_notIn_seq
theorem k_piL (K : PySem.W.Frag) (h : X.K = K) {tg l : Expr} {tl : TE} (hl : PE X l tl) : PI X tg l (iList K tl) := by subst h; exact pi_list hl
theorem k_piT (K : PySem.W.Frag) (h : X.K = K) {tg l : Expr} {tl : TE} (hl : PE X l tl) : PI X tg l (iTup K tl) := by subst h; exact pi_tup hl
theorem k_piE (K : PySem.W.Frag) (h : X.K = K) {e : Expr} {ta : TA} {p pos tpos : Pos} {elts : List Expr} {kk : Nat} (hg : Gl X "enumerate") (hm : X.mg "enumerate" = none) (ha : PA X [e] ta) (hs : starEach [e] X.env = [(false, eval e X.env)] := by rfl) : PI X (.Tuple elts kk tpos) (.Call (.Name "enumerate" p) [e] [] pos) (iEnum K ta) := by subst h; exact pi_enum hg hm ha hs
theorem k_pgT (K : PySem.W.Frag) (h : X.K = K) {es : List Expr} {k : Nat} {t : TGs} {n : Nat} {pos : Pos} (hc : X.calm = true) (hp : PGs X es t) (hn : (assignEach es X.env).length = n := by rfl) (hst : (assignEach es X.env).findIdx? (·.1) = none := by rfl) : PG X (.Tuple es k pos) (gTup K n t) := by subst h; exact pg_tup hc hp hn hst
theorem k_pgL (K : PySem.W.Frag) (h : X.K = K) {es : List Expr} {k : Nat} {t : TGs} {n : Nat} {pos : Pos} (hc : X.calm = true) (hp : PGs X es t) (hn : (assignEach es X.env).length = n := by rfl) (hst : (assignEach es X.env).findIdx? (·.1) = none := by rfl) : PG X (.Tuple es k pos) (gUnl K n t) := by subst h; exact pg_unl hc hp hn hst
theorem k_fld (K : PySem.W.Frag) (h : X.K = K) {e : Expr} {f : Str} {pos : Pos} {ta : TE} (he : PE X e ta) (hb : attributeBase e f X.env (eval e X.env) = eval e X.env) : PE X (.Attribute e f pos) (tFld K ta f) := by subst h; exact pe_fld he hb
theorem k_index (K : PySem.W.Frag) (h : X.K = K) : MtR X "list.index" (rIndex K) := by subst h; exact mt_index
end
/-! ### small things -/
theorem fresh {H : Hp} {p : Addr} (o : HO) (np : H p = none) : ∃ H', upd H p o = H' ∧ Same H H' ∧ H' p = some o := ⟨_, rfl, same_upd np, upd_same⟩
theorem cut_take (xs : List V) (k : Nat) : cutV xs none (some (k : Int)) = xs.take k := by
  unfold cutV
  rw [HT.sIx_nat, HT.sIx_none, List.drop_zero, Nat.sub_zero]
  rcases Nat.le_total k xs.length with h | h
  · rw [Nat.min_eq_left h]
  · rw [Nat.min_eq_right h, List.take_of_length_le h, List.take_length]
theorem cut_drop (xs : List V) (k : Nat) : cutV xs (some (k : Int)) none = xs.drop k := by
  unfold cutV
  rw [HT.sIx_nat, HT.sIx_none]
  rcases Nat.le_total k xs.length with h | h
  · rw [Nat.min_eq_left h, List.take_of_length_le (by rw [List.length_drop]; exact Nat.le_refl _)]
  · rw [Nat.min_eq_right h, List.drop_length, List.drop_of_length_le h, List.take_nil]
theorem rep_ints (k : Nat) (ks : List Int) : (List.replicate k (ks.map V.int)).flatten = ((List.replicate k ks).flatten).map V.int := by
  rw [List.map_flatten, List.map_replicate]
theorem rep_len {α : Type} (k : Nat) (ks : List α) : ((List.replicate k ks).flatten).length = k * ks.length := by
  induction k with
  | zero => simp
  | succ k ih => rw [List.replicate_succ, List.flatten_cons, List.length_append, ih, Nat.succ_mul]; omega
theorem rep_mem {α : Type} {k : Nat} {ks : List α} {x : α} (h : x ∈ (List.replicate k ks).flatten) : x ∈ ks := by
  obtain ⟨l, hl, hx⟩ := List.mem_flatten.mp h
  rw [(List.mem_replicate.mp hl).2] at hx
  exact hx
/-! ### comprehensions that make new things: R tells what is known of the i-th; D is no part of it -/
def Off (D : Addr) (H H' : Hp) : Prop := ∀ b o, b ≠ D → H b = some o → H' b = some o
def RelPv (R : Nat → V → Hp → Prop) (H1 : Hp) (D : Addr) (i : Nat) (H : Hp) : Prop := ∃ ys : List V, Same H1 H ∧ H D = some (.lst ys) ∧ ys.length = i ∧ ∀ (k : Nat) (y : V), ys[k]? = some y → R k y H
theorem lc_relR {lo : Int} {n : Nat} {j : Nat} {te : TE} {vs : List Nat} {σ : L2.St} {H1 : Hp} {D : Addr} {Qd : Hp → Prop} (R : Nat → V → Hp → Prop) (nD : H1 D = none) (hz : n < sizeLine)
    (mono : ∀ i y H H', Off D H H' → R i y H → R i y H')
    (hw : ∀ x, wipe ((wipe σ vs).set j (some x)) vs = wipe σ vs)
    (hs : ∀ (i : Nat) (H' : Hp) (xs : List V), i < n → Same H1 H' → H' D = some (.lst xs) → ∀ Qt : V → Hp → Prop, (∀ y H'', Same H' H'' → R i y H'' → Qt y H'') → te ((wipe σ vs).set j (some (.int (lo + (i : Int))))) H' Qt)
    (hd : ∀ H' ys, Same H1 H' → H' D = some (.lst ys) → ys.length = n → (∀ (i : Nat) (y : V), ys[i]? = some y → R i y H') → Qd H') :
    ∃ W : Nat → Nat → Hp → Prop, (∃ m, W 0 m (upd H1 D (.lst []))) ∧ ∀ i m H, W i m H →
      ((Itr lo n).stop i H ∧ Qd H) ∨ ((Itr lo n).go i H ∧ ∃ Nx : Hp → Prop, (∀ H', Nx H' → ∃ m', m' < m ∧ W (i + 1) m' H') ∧ ∀ x H', (Itr lo n).yld i H x H' → gName j x (wipe σ vs) H' fun σ2 H2 => wipe σ2 vs = wipe σ vs ∧ tYes σ2 H2 fun b H3 =>
        if b = true then te σ2 H3 fun y H4 => ∃ acc, H4 D = some (.lst acc) ∧ acc.length < sizeLine ∧ Nx (upd H4 D (.lst (acc ++ [y]))) else Nx H3) := by
  refine lc_range (lo := lo) (n := n) (RelPv R H1 D) ⟨[], same_upd nD, upd_same, rfl, fun k y h => by simp at h⟩ ?_ ?_
  · rintro i H hi ⟨ys, s, hD, hl, hR⟩
    refine ⟨hw _, ?_⟩
    show if true = true then te ((wipe σ vs).set j (some (.int (lo + (i : Int))))) H (fun y H4 => ∃ acc, H4 D = some (.lst acc) ∧ acc.length < sizeLine ∧ RelPv R H1 D (i + 1) (upd H4 D (.lst (acc ++ [y])))) else RelPv R H1 D (i + 1) H
    refine iteT (hs i H ys hi s hD _ fun y H4 s4 r4 => ?_)
    refine ⟨ys, s4 _ _ hD, by omega, ys ++ [y], same_over nD (s.trans s4), upd_same, by rw [List.length_append, hl]; rfl, fun k z hz => ?_⟩
    have off : Off D H4 (upd H4 D (.lst (ys ++ [y]))) := fun b o nb h => by rw [upd_ne nb]; exact h
    by_cases hk : k < ys.length
    · rw [List.getElem?_append_left hk] at hz
      exact mono k z H _ (fun b o nb h => off b o nb (s4 b o h)) (hR k z hz)
    · rw [List.getElem?_append_right (by omega)] at hz
      have hk2 : k - ys.length = 0 := by
        have h2 := (List.getElem?_eq_some_iff.mp hz).1
        rw [List.length_singleton] at h2
        omega
      rw [hk2] at hz
      cases hz
      have ek : k = i := by omega
      rw [ek]
      exact mono i y H4 _ off r4
  · rintro H ⟨ys, s, hD, hl, hR⟩
    exact hd H ys s hD hl hR
/-! ### ways that are told by whole numbers -/
theorem iteDT {p A B : Prop} [Decidable p] (hp : p) (h : A) : if decide p = true then A else B := by rw [decide_eq_true hp]; exact iteT h
theorem iteDF {p A B : Prop} [Decidable p] (hp : ¬ p) (h : B) : if decide p = true then A else B := by rw [decide_eq_false hp]; exact iteF h
theorem iteNT {p A B : Prop} [Decidable p] (hp : ¬ p) (h : A) : if (!decide p) = true then A else B := by rw [decide_eq_false hp]; exact iteT h
theorem iteNF {p A B : Prop} [Decidable p] (hp : p) (h : B) : if (!decide p) = true then A else B := by rw [decide_eq_true hp]; exact iteF h
theorem iteET {a b : Int} {A B : Prop} [Decidable (V.int a = V.int b)] (hp : a = b) (h : A) : if decide (V.int a = V.int b) = true then A else B := iteDT (congrArg V.int hp) h
theorem iteEF {a b : Int} {A B : Prop} [Decidable (V.int a = V.int b)] (hp : ¬ a = b) (h : B) : if decide (V.int a = V.int b) = true then A else B := iteDF (fun z => hp (V.int.inj z)) h
theorem iteENT {a b : Int} {A B : Prop} [Decidable (V.int a = V.int b)] (hp : ¬ a = b) (h : A) : if (!decide (V.int a = V.int b)) = true then A else B := iteNT (fun z => hp (V.int.inj z)) h
theorem iteENF {a b : Int} {A B : Prop} [Decidable (V.int a = V.int b)] (hp : a = b) (h : B) : if (!decide (V.int a = V.int b)) = true then A else B := iteNF (congrArg V.int hp) h
theorem iteNtt {A B : Prop} (h : B) : if (!true) = true then A else B := h
theorem iteNff {A B : Prop} (h : A) : if (!false) = true then A else B := h
/-- 1 or 0 of a comparison -/
theorem int_if {p : Prop} [Decidable p] : (if decide p = true then (1 : Int) else 0) = if p then 1 else 0 := by by_cases h : p <;> simp [h]
end Pre

namespace My
open PySem PySem.Spec PyProof.Rows L2
/-! ### own errors whose __init__ says super().__init__(value); self.value = value -/
namespace Sup
open PySem.W PySem.Calls
section
variable {prog : Program} {w : World} {A : Around} {E : Value → Shared → Prop} {h : Heap} {g : Array GenState} {d : Drawn} {t : Nat} {os : OsState}
variable {nm q : Str} {C N : Addr} {bs bm : List Value} {hdct : Bool} {sn : List Str} {sub : List Value} {ab : Bool} {col : Option Bool} {dd : Option Addr} {k0 k1 k2 k3 k5 : Option Value}
theorem call_bwV {u e t0 : Addr} {rest : List Value} {Q : Value → Shared → Prop}
    (hC : h.get? C = some (excClassObj nm q C N bs bm hdct sn sub ab col dd k0 k1 k2 k3 k5 "ValueError.__new__")) (he : h.get? e = some (HandSPX.excO C t0)) (hu : h.get? u = some (kxs_mw "ValueError.__init__" e)) (hrest : rest.length ≤ sizeLine)
    (hq : ∀ h' t1, (∀ b o, b ≠ e → h.get? b = some o → h'.get? b = some o) → h'.get? e = some (HandSPX.excO C t1) → Q .none ⟨h', g, d, t, os⟩) :
    wpAny (model prog w) A (call (.ref u) rest) Q E ⟨h, g, d, t, os⟩ := by
  refine wpAny_call (codeAny_of_tree ?_)
  show wpAny _ A.in1 (callAny (.ref u) ⟨rest, []⟩) _ _ _
  simp only [callAny]
  refine wpAny_bind (wpAny_load hu ?_)
  simp only [kxs_mw, show (Value.type "method-wrapper" == Value.type "method" || Value.type "method-wrapper" == Value.type "builtin_function_or_method" || Value.type "method-wrapper" == Value.type "method-wrapper") = true by decide, if_true]
  refine W.KFB.if_so (by decide) ?_
  refine wpAny_bind (ESX.check_bound F.excBase_ValueError hC he rfl ?_)
  refine wpAny_bind (wpAny_pure (wpAny_pure ?_))
  refine ⟨Code.quiet_builtin _ (by decide +kernel), codeAny_builtin F.excBase_ValueError.initEntry ?_⟩
  rw [Around.under_plainId F.excBase_ValueError.init.plain _]
  exact exc_init_tree (cls := .ref C) (t0 := t0) (dv := none) (c2 := .none) (c3 := .none) (b4 := .bool false) he hrest fun h' k e' _ => hq h' _ k e'
end
/-- the file of the program: what its code objects are asked for -/
class PF (P : Program) (file : Str) : Prop where
  file : ((P.main.file : Str) == file) = true
  top : (P.main.scope.names.lookup ("super" : Str)).isSome = false
/-- what the written part says of such a class C, named x, and its __init__ at fI -/
structure SupC (K : Frag) (file x : Str) (st : Stmt) (C fI : Addr) (fd : FuncData) : Prop where
  T : OexC K C
  ex : ∃ (oc : Value) (od : Option Addr) (dV kV doc pm : Value) (an : Option Addr) (c cc : Addr) (ct : Value) (osl : Array (Option Value)),
    fd = ksFn "__init__" (x ++ (".__init__" : Str)) (defArgs st) (defBody st) (defScope st) dV kV doc pm an (.ref c) ct cc ∧ K.lookup fI = some ⟨oc, od, .func fd, osl⟩ ∧ codeIn K (.ref c) (x ++ (".__init__" : Str)) = true ∧
    (∃ (ccl : Value) (cdd : Option Addr) (vs : Array Value) (ccs : Array (Option Value)) (tf : Tok), K.lookup c = some ⟨ccl, cdd, .fields vs, ccs⟩ ∧ vs[2]? = some (.str file tf)) ∧ (∃ (cl : Value) (cld : Option Addr) (csl : Array (Option Value)), K.lookup cc = some ⟨cl, cld, .cell (some (.ref C)), csl⟩)
  sup : ks_superIn K C C "__init__" = some (some (.builtin "ValueError.__init__"))
  subV : subIn K (.ref C) (.type "ValueError") = some true
  subC : mroIn K C (.ref C) = some true
  opq : nsIn K cStatics "thirdparty.any" = some none
  nov : findIn K (.ref C) "value" = some none
/-- the body's shape -/
def SupBody (st : Stmt) : Prop := ∃ p0 p1 p2 p3 p4 p5 p6 p7 p8 p9 : Pos,
  defBody st = [.Expr (.Call (.Attribute (.Call (.Name "super" p0) [] [] p1) "__init__" p2) [.Name "value" p3] [] p4) p5, .Assign [.Attribute (.Name "self" p6) "value" p7] (.Name "value" p8) p9] ∧
  ((defArgs st).posonlyargs ++ (defArgs st).args).head?.map (·.arg) = some ("self" : Str) ∧
  ∀ env : Env, ∃ pl : Sem Bool, eval (.Call (.Attribute (.Call (.Name "super" p0) [] [] p1) "__init__" p2) [.Name "value" p3] [] p4) env = (do
      let ov ← attributeBase (.Call (.Name "super" p0) [] [] p1) "__init__" env (eval (.Call (.Name "super" p0) [] [] p1) env)
      standAt p2.atName
      let (f, first) ← holding [ov] (getMethod ov "__init__" pl)
      callWith p4 f first (backTo p4 (starEach [.Name "value" p3] env)) [])
def sp_exc_init (C : Addr) : Sp := fun vs H Q _ => ∃ (a : Addr) (v : V), vs = [.ref a, v] ∧ H a = some (exo a C none) ∧ ∀ d, H d = none → d ≠ a → Q .non (upd (upd H d (exd d [("value", v)])) a (exo a C (some d)))
section
variable {P : Program} {w : World} {K : Frag} {mg : Str → Option Value} {base : Heap} {CX : CXT} {file x : Str} {st : Stmt} {C fI : Addr} {fd : FuncData}
theorem fn_sup [pf : PF P file] (S : NdefX.NScope ["self", "value", "__class__"] ["self", "value"] ["__class__"] (defScope st)) (hgs : (defScope st).names.lookup ("super" : Str) = some .globalImplicit) (hb0 : SupBody st) (F : SupC K file x st C fI fd) (nosup : mg ("super" : Str) = none) :
    FnOk P w K mg base CX 1 fI fd ["self", "value"] (sp_exc_init C) := by
  refine ⟨fun vs H Q E h => by obtain ⟨a, v, rfl, _⟩ := h; rfl, fun A outer s H args us vs Q E hr e0 hb rv hsp => ?_⟩
  obtain ⟨a, v, rfl, ha, q⟩ := hsp
  obtain ⟨oc, od, dV, kV, doc, pm, an, c, cc, ct, osl, rfl, lk, hcd, ⟨ccl, cdd, cvs, ccs, tf, lkc, hvs⟩, cl, cld, csl, lkcc⟩ := F.ex
  obtain ⟨p0, p1, p2, p3, p4, p5, p6, p7, p8, p9, hbody, hself, hev⟩ := hb0
  obtain ⟨pl, hpl⟩ := hev (NdefX.envF ⟨"__init__", x ++ (".__init__" : Str), defArgs st, defBody st, defScope st, [("__class__", cc)], c⟩ fI s.heap.objs.size)
  have hin : K.In s.heap := e0.mod.kin.keeps fun b o z => (e0.bs b o z).1
  have lim : s.heap.NoLimit := e0.mod.nolimit.keeps fun b o e => (e0.bs b o e).1
  let Fn : NdefX.NF := ⟨"__init__", x ++ (".__init__" : Str), defArgs st, defBody st, defScope st, [("__class__", cc)], c⟩
  refine codeAny_call_function hr.depth (hin _ _ lk) rfl S.co S.gen rfl (codeRec_of hin hcd) (hb _ _ _ _ ?_)
  refine wpAny_newFunctionEnv S.nocell (fun ⟨n, _⟩ hy => S.par n (List.of_mem_zip hy).1) (fun h₁ hns hsb => ⟨lim.fresh _ hsb, ?_⟩) S.kind
  show codeAny _ _ (.func (defBody st) (NdefX.envF Fn fI s.heap.objs.size)) _ _
  have kp : ∀ b o, s.heap.get? b = some o → h₁.get? b = some o := fun b o e => hsb.extBut b o (Nat.ne_of_lt (Heap.lt_size e)) (Heap.get?_push_of_some _ e)
  have hcc : ∀ y c', ([("__class__", cc)] : List (Str × Addr)).lookup y = some c' → y = ("__class__" : Str) ∧ c' = cc := fun y c' e => by
    by_cases h : y = ("__class__" : Str)
    · subst h
      cases e
      exact ⟨rfl, rfl⟩
    · rw [List.lookup_cons, show (y == ("__class__" : Str)) = false by simpa using h] at e
      cases e
  have cells : NdefX.CellsAt Fn.cl ["__class__"] [some (.ref C)] s.heap H := {
    len := rfl
    all := fun y c' e => by
      obtain ⟨_, rfl⟩ := hcc y c' e
      exact ⟨(e0.bs _ _ (e0.mod.kin _ _ lkcc)).2, _, _, hin _ _ lkcc, rfl⟩
    inj := fun y z c' e1 e2 => by rw [(hcc y c' e1).1, (hcc z c' e2).1]
    has := fun i y e => by
      cases i with
      | zero =>
        cases e
        refine ⟨cc, rfl, fun u hu => ?_⟩
        cases hu
        exact ⟨.ref C, rfl, _, hin _ _ lkcc, rfl⟩
      | succ i => simp at e }
  have I : Inv (NdefX.ncx CX P w K mg base ["self", "value", "__class__"] Fn fI A outer s H E) [] (NdefX.startF ["self", "value", "__class__"] [.ref a, v] [some (.ref C)]) H { s with heap := h₁, toks := s.toks + (["self", "value"].zip us).length } := NdefX.inv_startN S hr.hd e0 rfl rv cells hns kp
  obtain ⟨nm, q0, N, bs, bm, sn, sub, ab, col, dd, k0, k1, k2, k3, k5, hC, hbm⟩ := F.T.cls
  have hcl : clsIn K C = some { name := nm, bases := bs, mro := .ref C :: bm, ns := N, qualname := q0, hasDict := true, slotNames := sn, subclasses := sub, abstract := ab, collection := col, hasDel := false } := by unfold clsIn; rw [hC] <;> rfl
  refine ks_codeAny_funcAt ?_
  rw [hbody]
  obtain ⟨ar, hp, har⟩ : ∃ ar, ((defArgs st).posonlyargs ++ (defArgs st).args).head? = some ar ∧ ar.arg = ("self" : Str) := by
    cases e : ((defArgs st).posonlyargs ++ (defArgs st).args).head? with
    | none => rw [e] at hself; cases hself
    | some ar => rw [e] at hself; exact ⟨ar, rfl, Option.some.inj hself⟩
  have X1 : K.In h₁ := hin.keeps kp
  obtain ⟨ual, rfl⟩ : ∃ u1, us = [.ref a, u1] := by
    cases rv with
    | cons r1 r2 => cases r2 with
      | cons r3 r4 => cases r4; cases r1; exact ⟨_, rfl⟩
  refine ks_wpAt_execs_cons (ks_wpAt_Expr_any (ks_wpAt_MethodCall (pl := pl) ?_ hpl) I.quiet)
  refine ks_wpAt_super_base (env := NdefX.envF Fn fI s.heap.objs.size) hgs (S.frk _ (by simp)) (by decide) rfl (X1 _ _ lk) rfl hp rfl (X1 _ _ lkc) rfl hvs pf.file pf.top ?_
  obtain ⟨mb, hb1, hb2⟩ := I.mod.blt
  refine ks_loadName_global S.kind hgs (loadGlobal_builtin (env := NdefX.envF Fn fI s.heap.objs.size) (I.mod.glob.keeps I.bk) nosup (hb1.keeps I.bk) ((hb2 _ (by decide)).trans (show bootBuiltins "super" = some (.type "super") by decide +kernel)) ⟨rfl, ?_⟩)
  refine wpAny_loadName_free S.kind (S.frk _ (by simp)) rfl ⟨_, X1 _ _ lkcc, rfl⟩ ?_
  rw [har]
  refine wpAny_loadName_local S.kind (S.par _ (by simp)) hns rfl ?_
  obtain ⟨t1, he0⟩ := exo_at e0.hok ha
  have he1 := kp _ _ he0
  refine ks_wpAny_isType_cls (X1 _ _ hC) rfl ⟨rfl, ?_⟩
  refine ks_wpAny_call_super (X1 _ _ hC) rfl he1 rfl (fun c e => by cases e) (looks_mroIn X1 F.subC) (fun h2 hso k2 => ?_)
  have X2 : K.In h2 := X1.keeps k2
  have he2 := k2 _ _ he1
  have IA : InstAt h2 a (HandSPX.excO C t1) C none := ⟨he2, rfl, rfl, trivial⟩
  have hf := F.sup
  unfold ks_superIn at hf
  rw [hcl] at hf
  refine kxs_getMethod kxs_ValueError hso (looks_opaque X2 F.opq) (l₀ := .ref C :: bm) (fun A Q E s k q => wpAny_bind ((looks_clsIn X2 hcl) A _ E s k (wpAny_pure q))) rfl X2 hf (IA.type.andThen (looks_subIn X2 F.subV)) (ks_ne X2 IA hcl) (by decide) ?_
  have k3 : ∀ b o, h₁.get? b = some o → (h2.push (kxs_mw "ValueError.__init__" a)).get? b = some o := fun b o e => Heap.get?_push_of_some _ (k2 b o e)
  have I3 := I.kept (h' := h2.push (kxs_mw "ValueError.__init__" a)) (t' := s.toks + (["self", "value"].zip [Value.ref a, ual]).length + 1) k3
  refine kxs_callWith (i := "ValueError.__init__") (x := a) rfl ?_
  rw [show starEach [Expr.Name "value" p3] (NdefX.envF Fn fI s.heap.objs.size) = (false, eval (.Name "value" p3) (NdefX.envF Fn fI s.heap.objs.size)) :: starEach [] (NdefX.envF Fn fI s.heap.objs.size) from rfl]
  refine evalArgs_plain ?_
  refine spliced_cons ?_
  obtain ⟨m, hn, hl⟩ := I3.loc
  obtain ⟨u, ru, l⟩ := hl 1 "value" v rfl rfl (.inl (S.par _ (by simp)))
  have fin : wpAny (model P w) (A.deeper (NdefX.envF Fn fI s.heap.objs.size)) (eval (.Name "value" p3) (NdefX.envF Fn fI s.heap.objs.size)) (fun z s' => z = u ∧ s' = { s with heap := h2.push (kxs_mw "ValueError.__init__" a), toks := s.toks + (["self", "value"].zip [Value.ref a, ual]).length + 1 }) (fun e s' =>
      wpAny (model P w) (A.deeper (NdefX.envF Fn fI s.heap.objs.size)) (leaving (NdefX.envF Fn fI s.heap.objs.size) e)
        (fun x s'' => CR CX outer P w H s Q E (Except.error e) s'')
        (fun e' s'' => CR CX outer P w H s Q E (Except.error e') s'') s') { s with heap := h2.push (kxs_mw "ValueError.__init__" a), toks := s.toks + (["self", "value"].zip [Value.ref a, ual]).length + 1 } := by
    rcases l with ⟨hk, hm⟩ | ⟨hk, _⟩
    · exact wpAny_Name (wpAny_loadName_local S.kind hk hn hm ⟨rfl, rfl⟩) (by decide)
    · have hv : (defScope st).names.lookup ("value" : Str) = some .local := S.par _ (by simp)
      rcases hk with hk | hk <;> exact absurd (hv.symm.trans hk) (by intro z; cases z)
  refine wpAny_mono fin (fun z s' hz => ?_) fun _ _ z => z
  obtain ⟨rfl, rfl⟩ := hz
  refine spliced_nil ⟨Heap.get?_push_at rfl rfl, ?_⟩
  refine call_bwV (e := a) (t0 := t1) (X2.keeps (fun b o e => Heap.get?_push_of_some _ e) _ _ hC) (Heap.get?_push_of_some _ he2) (Heap.get?_push_at rfl rfl) (by show 1 ≤ sizeLine; decide) fun h' t2 k4 hx => ?_
  refine wpAt_of_wpAny ?_
  have J := I3.write (t' := s.toks + (["self", "value"].zip [Value.ref a, ual]).length + 1) (x := a) (e := a) (o := exo a C none) (by rw [ha]; exact True.intro) (.inl rfl) k4 ⟨_, hx⟩ (exo_ok hx)
  have eu : upd H a (exo a C none) = H := by
    funext b
    by_cases hb : b = a
    · rw [hb, upd_same, ha]
    · rw [upd_ne hb]
  rw [eu] at J
  have ht : PSs (NdefX.ncx CX P w K mg base ["self", "value", "__class__"] Fn fI A outer s H E) [.Assign [.Attribute (.Name "self" p6) "value" p7] (.Name "value" p8) p9] (tOst K "value" (tVar 0) (tVar 1)) :=
    pss_one (ps_ost (pe_var (i := 0) rfl (.inl (S.par _ (by simp)))) (pe_var (i := 1) rfl (.inl (S.par _ (by simp)))))
  refine wpAny_mono (ht.run [] _ _ H { nx := fun _ H' => Q .non H', rt := Q } J ⟨v, rfl, .ref a, rfl, a, C, rfl, F.T, F.nov, .inl ⟨ha, fun dx n ne => q dx n ne⟩⟩) (fun fl s' hs => ?_) fun e s' hs => hs
  have fin : ∀ {σ' : L2.St} {H' : Hp} {v : V} {u : Value}, Inv (NdefX.ncx CX P w K mg base ["self", "value", "__class__"] Fn fI A outer s H E) [] σ' H' s' → L2.RelV v u → Q v H' → CE outer P w H s Q u s' :=
    fun {σ' H' v u} J rv q => ⟨v, H', J.os, J.bare, J.base, J.hok, rv, q⟩
  cases fl with
  | ret u =>
    obtain ⟨v, σ', H', J, rv, q⟩ := hs
    exact fin J rv q
  | next =>
    obtain ⟨σ', H', J, q⟩ := hs
    exact fin (v := V.non) (u := Value.none) J rfl q
  | brk =>
    obtain ⟨_, _, _, q⟩ := hs
    exact False.elim q
  | cont =>
    obtain ⟨_, _, _, q⟩ := hs
    exact False.elim q
end
end Sup
end My

namespace My
open PySem PySem.Spec PyProof.Rows L2
/-! ### such an error raised; its value in an except suite; several clauses with a name -/
/-- what is left to be shown behind the making of such an error with the value v -/
theorem mk_sup {C : Addr} {v : V} {H1 : Hp} {Q : XK} (q : ∀ d, H1 d = none → Q (.ref C) (some d) (upd H1 d (.xd [("value", v)]))) : [v].length ≤ 1000 ∧ ∀ a, H1 a = none → Sup.sp_exc_init C (.ref a :: ([v] ++ [])) (upd H1 a (exo a C none))
    (fun w H2 => w = .non ∧ ∃ (d : Addr) (fs : List (Str × V)), H2 a = some (exo a C (some d)) ∧ H2 d = some (exd d fs) ∧ H1 d = none ∧ Q (.ref C) (some d) (upd (del H2 a) d (.xd fs))) (fun _ _ _ => False) := by
  refine ⟨by show 1 ≤ 1000; decide, fun a na => ⟨a, v, rfl, upd_same, fun d nd da => ⟨rfl, d, [("value", v)], upd_same, ?_, ?_, ?_⟩⟩⟩
  · rw [upd_ne da, upd_same]
  · rw [upd_ne da] at nd
    exact nd
  · have hn : H1 d = none := by rw [upd_ne da] at nd; exact nd
    have e : upd (del (upd (upd (upd H1 a (exo a C none)) d (exd d [("value", v)])) a (exo a C (some d))) a) d (.xd [("value", v)]) = upd H1 d (.xd [("value", v)]) := by
      funext b
      by_cases hb : b = d
      · rw [hb, upd_same, upd_same]
      · rw [upd_ne hb, upd_ne hb]
        by_cases hba : b = a
        · rw [hba, del_same, na]
        · rw [del_ne hba, upd_ne hba, upd_ne hb, upd_ne hba]
    rw [e]
    exact q d hn
/-- the reading of err.f, the class of err told there -/
def tXfA (K : PySem.W.Frag) (a : Addr) (cls : Value) (d : Option Addr) (f : Str) (te : TE) : TE := fun σ H Q => te σ H fun x H1 => x = .ref a ∧ ∃ C : Addr, cls = .ref C ∧ XfC K C ∧ PySem.W.findIn K (.ref C) f = some none ∧ ∃ (dd : Addr) (fs : List (Str × V)) (v : V), d = some dd ∧ H1 dd = some (.xd fs) ∧ fs.lookup f = some v ∧ Q v H1
theorem pe_xfA {X : Cx} {a : Addr} {oe : Obj} {cls : Value} {d : Option Addr} {pn : List (Addr × Obj)} {e : Expr} {te : TE} {pos : Pos} {n : Str}
    (hz : Zc cls d oe) (hf : ∃ vs, oe.data = .fields vs) (he : PE (X.suite a ((a, oe) :: pn)) e te) (hb : attributeBase e n X.env (eval e X.env) = eval e X.env := by rfl) :
    PE (X.suite a ((a, oe) :: pn)) (.Attribute e n pos) (tXfA X.K a cls d n te) := by
  refine ⟨fun pins s σ H Q I h => ?_⟩
  refine attr_of hb (thn (he.run pins s σ H _ I h) fun u s1 hh => ?_)
  obtain ⟨x, H1, I1, rx, ex, C, ec, T, hno, dd, fs, v, ed, ea, l, q⟩ := hh
  subst ex
  obtain rfl : u = Value.ref a := rx
  subst ec
  subst ed
  obtain ⟨ha, _⟩ := I1.pin (a, oe) (List.mem_append_left _ List.mem_cons_self)
  obtain ⟨vs, hd⟩ := hf
  have hx : ObjOk X.prog X.w H1 s1.heap dd (.xd fs) := I1.hok dd _ ea
  obtain ⟨mA, hns, hr⟩ := hx
  obtain ⟨od, ho, hl⟩ := lookIn_ns hns
  obtain ⟨u, hu, ru⟩ := RelO.some_of (v := v) (o := mA n) (by rw [← l]; exact hr n)
  have J : PySem.W.InstAt s1.heap a oe C (some od) := ⟨ha, hz.1, by unfold PySem.W.notCls; rw [hd] <;> rfl, by rw [hz.2]; exact ho⟩
  exact HandSPX.exc_get I1.kIn J T.ga T.gg T.exC (PySem.W.findObj_own T.hdC hno rfl (by rw [hl, hu])) (handed_of ru) ⟨v, H1, I1.tok _, ru, q⟩
/-- what the clauses 'except x as n' wish of an exception of the body, one after the other; slot i is n's -/
def wManyAs (K : PySem.W.Frag) (i : Nat) (Wout : WX) (D : Ends) : List (Value × (Addr → Value → Option Addr → TS)) → WX
  | [] => Wout
  | (c, ts) :: r => fun cls d σ H => ∃ b, PySem.W.exmOne K cls c = some b ∧ (b = true → ∀ a, H a = none → ts a cls d { nx := fun σ' H' => D.nx (σ'.set i none) H', rt := D.rt, bk := fun σ' H' => D.bk (σ'.set i none) H', ct := fun σ' H' => D.ct (σ'.set i none) H' } (σ.set i (some (.ref a))) H) ∧
    (b = false → wManyAs K i Wout D r cls d σ H)
inductive HdsAs (X : Cx) (n : Str) : List ExceptHandler → List (Value × (Addr → Value → Option Addr → TS)) → Prop
  | nil : HdsAs X n [] []
  | cons {x : Str} {c : Value} {ts : Addr → Value → Option Addr → TS} {b₀ : Stmt} {suite : List Stmt} {np pos' : Pos} {hds : List ExceptHandler} {l : List (Value × (Addr → Value → Option Addr → TS))} (hc : Names X x c)
      (hsu : ∀ (a : Addr) (oe : Obj) (cls : Value) (d : Option Addr) (pn : List (Addr × Obj)), Zc cls d oe → (∃ vs, oe.data = .fields vs) → PSs (X.suite a ((a, oe) :: pn)) (b₀ :: suite) (ts a cls d)) (r : HdsAs X n hds l) :
      HdsAs X n (.ExceptHandler (some (.Name x np)) (some n) (b₀ :: suite) pos' :: hds) ((c, ts) :: l)
section
variable {X : Cx} {n : Str} {i : Nat} {body : List Stmt} {h₀ : ExceptHandler} {hds : List ExceptHandler} {l : List (Value × (Addr → Value → Option Addr → TS))} {pos : Pos} {tb : WX → TS} {Wout : WX}
theorem ps_try_manyAs (hs : X.stack = X.env :: X.outer) (hf : X.env.frame = some X.env.locals) (hN : X.N.Nodup) (hi : X.N[i]? = some n) (hln : X.env.kindOf n = some .local) (tk : Takes X Wout)
    (hb : ∀ (W : WX) (pn : List (Addr × Obj)) (xe : Value → Shared → Prop), Takes (X.tr pn xe) W → PassesOwn (model X.prog X.w) X.A X.env xe → PSs (X.tr pn xe) body (tb W))
    (hh : HdsAs X n (h₀ :: hds) l) : PS X (.Try body (h₀ :: hds) [] [] pos) (fun D σ H => tb (wManyAs X.K i Wout D l) D σ H) := by
  refine ⟨fun pins s σ H D I h => ?_⟩
  have ok := I.ok
  have hfr : X.A.frames = some (X.env :: X.outer) := by rw [ok.frames, hs]
  have hloc : Loc X.env.scope n := .inl hln
  refine wpAny_Try_except ?_
  refine wpAny_mono ((hb (wManyAs X.K i Wout D l) (X.pn ++ pins) (fun e s₁ => wpAny (model X.prog X.w) X.A (noteFrame e X.env) (fun _ s₂ => wpAny (model X.prog X.w) X.A (setFlight e none) (fun _ s₃ =>
    wpAny (model X.prog X.w) X.A (handleBy e X.env (h₀ :: hds)) (SP X pins D) X.xe s₃) X.xe s₂) X.xe s₁) (fun u s' xx => ?_) PassesOwn.looking).run [] s σ H D (I.toTry _) h) (fun f s1 hsp => ?_) (fun e s1 he => he)
  · -- the catch
    obtain ⟨a, B, sI, pins', σ', H', cls, d, rfl, J', nb, up, sky, na, os, ag, w⟩ := xx
    have J : Inv X pins σ' H' sI := J'.ofTry ok
    have sky' : Sky B (X.env :: X.outer) a (Zc cls d) X.env.locals s'.heap := by rw [← hs]; exact sky
    show wpAny (model X.prog X.w) X.A (noteFrame (.ref a) X.env) _ _ _
    refine Sky.land Zc.steady hfr hf sky' fun h3 fl3 up3 => ?_
    have J3 : Inv X pins σ' H' { s' with heap := h3 } := J.landed nb fl3.1 (up.trans up3) os ag
    obtain ⟨oe3, vs3, he3, hz3, hd3⟩ := fl3.there
    have notFr : ∀ {h : Heap} {o : Obj} {vs : Array Value}, h.FunFrames B (X.env :: X.outer) → h.get? a = some o → o.data = .fields vs → a ∉ frs (X.env :: X.outer) := fun {h o vs} ff e dd hm => by
      obtain ⟨_, o', e', hnf⟩ := ff.mem hm
      rw [e] at e'; cases e'
      exact hnf _ dd
    have nfr := notFr fl3.2.2.1 he3 hd3
    have nL : a ≠ X.env.locals := fun z => nfr (List.mem_filterMap.mpr ⟨X.env, List.mem_cons_self, by rw [hf, z]⟩)
    have nF : a ∉ X.fs := fun hm => by
      obtain ⟨e, he, q⟩ := List.mem_filterMap.mp hm
      exact nfr (List.mem_filterMap.mpr ⟨e, List.mem_cons_of_mem _ he, q⟩)
    have S3 := J3.suite he3 hd3 na nL nF
    have go : ∀ {hds' : List ExceptHandler} {l' : List (Value × (Addr → Value → Option Addr → TS))}, HdsAs X n hds' l' → wManyAs X.K i Wout D l' cls d σ' H' →
        wpAny (model X.prog X.w) X.A (handleBy (.ref a) X.env hds') (SP X pins D) X.xe { s' with heap := h3 } := by
      intro hds' l' hk
      induction hk with
      | nil =>
        intro w
        refine wpAny_handleBy_nil ?_
        obtain ⟨k1, k2, k3, oe, vs, T, oT, ts', he, hz, hd, h1, hr⟩ := id fl3
        unfold PySem.passOn
        refine wpAny_bind (wpAny_field he hd h1 ?_)
        rw [if_neg (show ¬ ((Value.ref T == Value.none) = true) from by simp)]
        have fin : wpAny (model X.prog X.w) X.A (setFlight (.ref a) X.env.frame) (fun _ s4 => wpAny (model X.prog X.w) X.A (throw (.ref a) : Sem Flow) (SP X pins D) X.xe s4) X.xe { s' with heap := h3 } := by
          rw [hf]
          refine HandSPX.setFlight_upZ fl3 fun h4 hh4 up4 => wpAny_throw (tk _ _ ?_)
          exact ⟨a, B, sI, pins, σ', H', cls, d, rfl, J, nb, (up.trans up3).trans up4, .inr (.inr (by rw [hs]; exact hh4)), na, os, ag, w⟩
        first
          | exact wpAny_bind (wpAny_pure (wpAny_bind fin))
          | exact wpAny_bind fin
      | @cons x c ts b₀ suite np pos' hds2 l2 hc hsu r ih =>
        intro w
        obtain ⟨b, hb1, hyes, hno⟩ := w
        refine wpAny_handleBy_cons (codeAny_handlers_test ?_) (by intro q; cases q)
        have LT : PySem.W.Looks (model X.prog X.w) h3 (typeOf (.ref a)) cls := fun A Q E s k q => wpAny_typeOf_ref (k _ _ he3) (by rw [hz3.1]; exact q)
        have LM := PySem.W.exm_one (M := model X.prog X.w) (J3.kIn) LT hb1
        have test : ∀ {Q : Value → Shared → Prop} {E : Value → Shared → Prop}, Q c { s' with heap := h3 } → wpAny (model X.prog X.w) (X.A.mark (some (.ref a))) (eval (.Name x np) X.env) Q E { s' with heap := h3 } := fun {Q E} q => by
          obtain ⟨hg, hdbg, hm | ⟨hm, hv, hnn⟩⟩ := hc
          · exact ld_glob (X := X.suite a ((a, oe3) :: (X.pn ++ pins))) S3 hg hm q hdbg
          · exact ld_blt (X := X.suite a ((a, oe3) :: (X.pn ++ pins))) S3 hg hm hv q hnn hdbg
        refine test (LM.here ?_)
        cases b with
        | true =>
          refine codeAny_handlers_suite_as ?_
          refine HandSPX.lands_againZ fl3 fun h4 fl4 up4 => ?_
          have J4 : Inv X pins σ' H' { s' with heap := h4 } := J.landed nb fl4.1 ((up.trans up3).trans up4) os ag
          obtain ⟨oe4, vs4, he4, hz4, hd4⟩ := fl4.there
          have S4 := J4.suite he4 hd4 na nL nF
          refine store_ok (X := X.suite a ((a, oe4) :: (X.pn ++ pins))) (v := .ref a) S4 hN hi hloc rfl (fun s5 S5 => ?_) (.inr hln)
          refine wpAny_mono ((hsu a oe4 cls d (X.pn ++ pins) hz4 ⟨_, hd4⟩).run [] s5 _ H' _ S5 (hyes rfl a na)) (fun f s6 hsp => ?_) (fun _ _ z => False.elim z)
          have end_ : ∀ {σ6 : L2.St} {H6 : Hp} {Q : Shared → Prop}, Inv (X.suite a ((a, oe4) :: (X.pn ++ pins))) [] σ6 H6 s6 → (∀ s7, Inv X pins (σ6.set i none) H6 s7 → Q s7) →
              wpAny (model X.prog X.w) X.A (do bindName X.env n .none; unbindBehindTheSuite X.env n pos') (fun _ s7 => Q s7) X.xe s6 := fun {σ6 H6 Q} S6 hq => gone_ok (S6.unsuite ok) hN hi hln hq
          cases f with
          | next =>
            obtain ⟨σ6, H6, S6, q6⟩ := hsp
            exact end_ S6 fun s7 J7 => ⟨_, _, J7, q6⟩
          | brk =>
            obtain ⟨σ6, H6, S6, q6⟩ := hsp
            exact end_ S6 fun s7 J7 => ⟨_, _, J7, q6⟩
          | cont =>
            obtain ⟨σ6, H6, S6, q6⟩ := hsp
            exact end_ S6 fun s7 J7 => ⟨_, _, J7, q6⟩
          | ret u =>
            obtain ⟨v6, σ6, H6, S6, r6, q6⟩ := hsp
            exact end_ S6 fun s7 J7 => ⟨_, _, _, J7, r6, q6⟩
        | false =>
          show wpAny _ X.A (handleBy (.ref a) X.env hds2) _ _ _
          exact ih (hno rfl)
    exact go hh w
  · cases f with
    | next =>
      obtain ⟨σ', H', J', q⟩ := hsp
      exact wpAny_execs_nil ⟨σ', H', J'.ofTry ok, q⟩
    | brk =>
      obtain ⟨σ', H', J', q⟩ := hsp
      exact ⟨σ', H', J'.ofTry ok, q⟩
    | cont =>
      obtain ⟨σ', H', J', q⟩ := hsp
      exact ⟨σ', H', J'.ofTry ok, q⟩
    | ret u =>
      obtain ⟨v, σ', H', J', r, q⟩ := hsp
      exact ⟨v, σ', H', J'.ofTry ok, r, q⟩
end
end My

namespace My
open PySem PySem.Spec PyProof.Rows L2
/-! ### own errors as they stand behind the top: what is asked of the written part -/
abbrev ErW : Type := Option (Str × Str × Arguments × FuncBody × Scope × Addr × Addr)
def erI (K : PySem.W.Frag) (x : Str) : Addr := match PySem.W.findIn K (.ref (He.ga K x)) "__init__" with
  | some (some (.ref a)) => a
  | _ => 0
def erW (K : PySem.W.Frag) (x : Str) : ErW := match K.lookup (erI K x) with
  | some ⟨_, _, .func fd, _⟩ => some (fd.name, fd.qualname, fd.params, fd.body, fd.scope, fd.globals, fd.builtins)
  | _ => none
/-- an own error class over ValueError -/
def oexB (K : PySem.W.Frag) (C : Addr) : Bool := match K.lookup C with
  | some ⟨.type "type", _, .cls cd, sl⟩ => (match cd.mro, sl.toList with
    | .ref C' :: bm, [_, _, _, _, some (.builtin n), _] => C' == C && (n == ("ValueError.__new__" : String) && (!cd.hasDel && (cd.hasDict && PySem.HandSPX.refsVE bm)))
    | _, _ => false)
  | _ => false
theorem oexB_ok {K : PySem.W.Frag} {C : Addr} (q : oexB K C = true) : ∃ nm qn N bs bm sn sub ab col dd k0 k1 k2 k3 k5, K.lookup C = some (excClassObj nm qn C N bs bm true sn sub ab col dd k0 k1 k2 k3 k5 "ValueError.__new__") ∧ PySem.HandSPX.refsVE bm = true := by
  unfold oexB at q
  split at q
  · rename_i dd cd sl ho
    split at q
    · rename_i C' bm k0 k1 k2 k3 n k5 hm hs
      simp only [Bool.and_eq_true, beq_iff_eq, Bool.not_eq_true'] at q
      obtain ⟨rfl, rfl, hdel, hdict, ht⟩ := q
      obtain ⟨nm, bs, mro, ns, qn, hd, sn, sub, ab, col, del⟩ := cd
      dsimp only at hm hdel hdict
      subst hm hdel hdict
      have hsl : sl = #[k0, k1, k2, k3, some (.builtin "ValueError.__new__"), k5] := by
        obtain ⟨l⟩ := sl
        simp only at hs
        rw [hs]
      subst hsl
      exact ⟨nm, qn, ns, bs, bm, sn, sub, ab, col, dd, k0, k1, k2, k3, k5, ho, ht⟩
    · cases q
  · cases q
/-- its __init__: one cell, of the class; code of the file; one default, None -/
def iniB (K : PySem.W.Frag) (file x : Str) : Bool := match K.lookup (erI K x) with
  | some ⟨_, _, .func fd, _⟩ => (match fd.closure with
    | [(n, cc)] => decide (n = ("__class__" : Str)) && ((match K.lookup cc with
      | some ⟨_, _, .cell (some (.ref C')), _⟩ => C' == He.ga K x
      | _ => false) && ((match fd.code with
        | .ref c => (match K.lookup c with
          | some ⟨_, _, .fields vs, _⟩ => (match (vs[2]? : Option Value) with
            | some (Value.str f _) => decide (f = file)
            | _ => false)
          | _ => false)
        | _ => false) && (PySem.W.codeIn K fd.code (x ++ (".__init__" : Str)) && (He.dflB K fd.defaults [.non] && He.kwdB K fd.kwdefaults []))))
    | _ => false)
  | _ => false
def errB (K : PySem.W.Frag) (file x : Str) : Bool :=
  oexB K (He.ga K x) && (iniB K file x && (xfB K (He.ga K x) && (decide (PySem.W.findIn K (.ref (He.ga K x)) "__setattr__" = some (some (.builtin "object.__setattr__"))) && (decide (PySem.W.subIn K (.ref (He.ga K x)) (.type "BaseException") = some true) && (decide (PySem.W.typeIn K (.ref (He.ga K x)) = some (.type "type")) && (PySem.W.keepIn K (.ref (He.ga K x)) &&
  (decide (PySem.W.ks_superIn K (He.ga K x) (He.ga K x) "__init__" = some (some (.builtin "ValueError.__init__"))) && (decide (PySem.W.subIn K (.ref (He.ga K x)) (.type "ValueError") = some true) && (decide (PySem.W.mroIn K (He.ga K x) (.ref (He.ga K x)) = some true) && (decide (PySem.W.nsIn K cStatics "thirdparty.any" = some none) && (decide (PySem.W.findIn K (.ref (He.ga K x)) "value" = some none) &&
  (decide (PySem.W.findIn K (.ref (He.ga K x)) "__init__" = some (some (.ref (erI K x)))) && decide (PySem.W.typeIn K (.ref (erI K x)) = some (.type "function"))))))))))))))
structure ErrC (K : PySem.W.Frag) (file x : Str) (st : Stmt) (C fI : Addr) (fd : FuncData) : Prop where
  sup : Sup.SupC K file x st C fI fd
  ini : PySem.W.findIn K (.ref C) "__init__" = some (some (.ref fI))
  ity : PySem.W.typeIn K (.ref fI) = some (.type "function")
  bnd : Binds K fd ["self", "value"] []
  xf : XfC K C
theorem err_ok {K : PySem.W.Frag} {file x : Str} {st : Stmt} (h : errB K file x = true) (e : erW K x = some (("__init__" : Str), x ++ (".__init__" : Str), defArgs st, FuncBody.stmts (defBody st), defScope st, mainGlobals, builtinsNs))
    (hb : ∀ (T cc : Addr) (kV doc pm : Value) (an : Option Addr) (cdv ct : Value) (us its : List Value), us.length = 2 → its.length = 1 →
      ∃ k, bindArgs (PySem.W.ksFn "__init__" (x ++ (".__init__" : Str)) (defArgs st) (defBody st) (defScope st) (.ref T) kV doc pm an cdv ct cc) ⟨us, []⟩ = seqItems? (.ref T) >>= k ∧ k (some its.toArray) = pure ((["self", "value"] : List Str).zip us)) :
    ∃ fd, ErrC K file x st (He.ga K x) (erI K x) fd := by
  unfold errB at h
  obtain ⟨h1, h⟩ := He.ba h
  obtain ⟨h2, h⟩ := He.ba h
  obtain ⟨h3, h⟩ := He.ba h
  obtain ⟨h4, h⟩ := He.ba h
  obtain ⟨h5, h⟩ := He.ba h
  obtain ⟨h6, h⟩ := He.ba h
  obtain ⟨h7, h⟩ := He.ba h
  obtain ⟨h8, h⟩ := He.ba h
  obtain ⟨h9, h⟩ := He.ba h
  obtain ⟨h10, h⟩ := He.ba h
  obtain ⟨h11, h⟩ := He.ba h
  obtain ⟨h12, h⟩ := He.ba h
  obtain ⟨h13, h14⟩ := He.ba h
  unfold iniB at h2
  unfold erW at e
  cases q : K.lookup (erI K x) with
  | none => rw [q] at e; cases e
  | some o =>
    obtain ⟨oc, od, dt, osl⟩ := o
    rw [q] at e h2
    cases dt with
    | func fd =>
      obtain ⟨n1, n2, n3, n4, n5, n6, n7, n8, n9, n10, n11, n12, n13, n14, n15⟩ := fd
      have e2 : (some (n1, n2, n3, n4, n5, n6, n15) : ErW) = some (("__init__" : Str), x ++ (".__init__" : Str), defArgs st, FuncBody.stmts (defBody st), defScope st, mainGlobals, builtinsNs) := e
      simp only [Option.some.injEq, Prod.mk.injEq] at e2
      obtain ⟨r1, r2, r3, r4, r5, r6, r7⟩ := e2
      subst r1 r2 r3 r4 r5 r6 r7
      dsimp only at h2
      split at h2
      · rename_i n cc
        obtain ⟨k1, h2⟩ := He.ba h2
        obtain ⟨k2, h2⟩ := He.ba h2
        obtain ⟨k3, h2⟩ := He.ba h2
        obtain ⟨k4, h2⟩ := He.ba h2
        obtain ⟨k5, k6⟩ := He.ba h2
        obtain rfl := of_decide_eq_true k1
        split at k2
        · rename_i cl cld C' csl lcc
          obtain rfl := beq_iff_eq.mp k2
          split at k3
          · rename_i c0
            split at k3
            · rename_i ccl cdd vs ccs lc
              split at k3
              · rename_i f tf hvs
                obtain rfl := of_decide_eq_true k3
                have D := He.dflB_ok k5
                refine ⟨_, ⟨⟨⟨oexB_ok h1, of_decide_eq_true h4, of_decide_eq_true h5, of_decide_eq_true h6, h7⟩, ⟨oc, od, n8, n9, n10, n11, n12, _, cc, n14, osl, rfl, q, k4, ⟨ccl, cdd, vs, ccs, tf, lc, hvs⟩, cl, cld, csl, lcc⟩,
                  of_decide_eq_true h8, of_decide_eq_true h9, of_decide_eq_true h10, of_decide_eq_true h11, of_decide_eq_true h12⟩, of_decide_eq_true h13, of_decide_eq_true h14, ?_, xfB_ok h3⟩⟩
                rcases D with ⟨z, _⟩ | ⟨_, T, o, its, m, rfl, lT, oT, rT⟩
                · cases z
                · intro s us X hlen
                  rw [List.append_nil] at hlen ⊢
                  obtain ⟨k, e1, e2⟩ := hb T cc n9 n10 n11 n12 _ n14 us its hlen rT.length.symm
                  refine BindsTo.of_looks fun M => ?_
                  refine Eq.mpr (congrArg (fun z => PySem.W.Looks M s.heap z _) e1) ?_
                  exact looks_items X lT oT (.of_pure e2)
              · cases k3
            · cases k3
          · cases k3
        · cases k2
      · cases h2
    | _ => cases e
end My

namespace My
open PySem PySem.Spec PyProof.Rows L2
/-! ### an error kept behind its clause: asked by isinstance, its value read -/
/-- a caught error: its class, its dict -/
def ExK (cls : Value) (d : Option Addr) (a : Addr) : HO := .ext fun h => ∃ (oe : Obj) (vs : Array Value), h.get? a = some oe ∧ Zc cls d oe ∧ oe.data = .fields vs
section
variable {X : Cx} {pins : List (Addr × Obj)} {σ : L2.St} {H : Hp} {s : Shared} {a : Addr}
/-- what is not there in a state is none of what the state speaks of -/
theorem _root_.L2.Inv.newIn (I : Inv X pins σ H s) (hx : X.ex = []) (na : s.heap.get? a = none) : X.s_0.heap.get? a = none ∧ a ≠ X.env.locals ∧ (∀ x c, X.env.cells.lookup x = some c → a ≠ c) ∧ ∀ p ∈ X.pn ++ pins, a ≠ p.1 := by
  refine ⟨?_, ?_, ?_, ?_⟩
  · cases e : X.s_0.heap.get? a with
    | none => rfl
    | some o =>
      obtain ⟨o', e'⟩ := I.base.there a o e (by rw [hx]; exact fun z => nomatch z)
      rw [na] at e'
      cases e'
  · obtain ⟨m, ⟨o, es, ep, ho, _⟩, _⟩ := I.loc
    exact fun e => by rw [← e, na] at ho; cases ho
  · intro x c e z
    obtain ⟨v, o, ho, _⟩ := I.cell x c e
    rw [← z, na] at ho
    cases ho
  · intro p hp z
    have ho := (I.pin p hp).1
    rw [← z, na] at ho
    cases ho
/-- an object that is there is from now on told of -/
theorem _root_.L2.Inv.track {cls : Value} {d : Option Addr} {oe : Obj} {vs : Array Value} (I : Inv X pins σ H s) (ha : s.heap.get? a = some oe) (z : Zc cls d oe) (hd : oe.data = .fields vs) (na : H a = none) (n0 : X.s_0.heap.get? a = none) (nL : a ≠ X.env.locals)
    (nC : ∀ x c, X.env.cells.lookup x = some c → a ≠ c) (nP : ∀ p ∈ X.pn ++ pins, a ≠ p.1) : Inv X pins σ (upd H a (ExK cls d a)) s := by
  have ne : ∀ {b : Addr} {o : HO}, H b = some o → b ≠ a := fun {b o} e q => by rw [q, na] at e; cases e
  refine ⟨I.ok, I.os, I.bare, ⟨I.base.keep, I.base.slot, fun b o e n hx => ?_, I.base.there, fun b xs e => ?_, fun b o u e => ?_, fun b ps e => ?_⟩, I.loc, I.cell, ?_, fun x c e => ?_, fun p hp => ?_, fun b u e => ?_, I.len⟩
  · rw [upd_ne fun q => by rw [q, n0] at e; cases e]
    exact I.base.free b o e n hx
  · have q := I.base.tups b xs e
    rw [upd_ne (ne q)]
    exact q
  · have q := I.base.frzs b o u e
    rw [upd_ne (ne q)]
    exact q
  · obtain ⟨m, q⟩ := I.base.tbls b ps e
    exact ⟨m, by rw [upd_ne (ne q)]; exact q⟩
  · rw [upd_ne fun q => nL q.symm]
    exact I.free
  · rw [upd_ne fun q => nC x c e q.symm]
    exact I.freeC x c e
  · obtain ⟨e, n, r⟩ := I.pin p hp
    exact ⟨e, by rw [upd_ne fun q => nP p hp q.symm]; exact n, r⟩
  · by_cases hb : b = a
    · subst hb
      rw [upd_same] at e
      cases e
      exact ⟨⟨oe, vs, ha, z, hd⟩, ⟨oe, ha⟩, fun _ _ ⟨o, v, q, r⟩ k => ⟨o, v, k o q, r⟩⟩
    · rw [upd_ne hb] at e
      exact (I.hok b u e).stay (fun c v _ q => q) (fun c q => by rw [upd_ne (ne q)]; exact q) fun c xs q => by rw [upd_ne (ne q)]; exact q
end
/-- as wManyAs, the error told of behind the clause -/
def wKeepAs (K : PySem.W.Frag) (i : Nat) (Wout : WX) (D : Ends) : List (Value × (Addr → Value → Option Addr → TS)) → WX
  | [] => Wout
  | (c, ts) :: r => fun cls d σ H => ∃ b, PySem.W.exmOne K cls c = some b ∧ (b = true → ∀ a, H a = none → ts a cls d { nx := fun σ' H' => D.nx (σ'.set i none) (upd H' a (ExK cls d a)), rt := D.rt, bk := fun σ' H' => D.bk (σ'.set i none) H', ct := fun σ' H' => D.ct (σ'.set i none) H' } (σ.set i (some (.ref a))) H) ∧
    (b = false → wKeepAs K i Wout D r cls d σ H)
section
variable {X : Cx} {n : Str} {i : Nat} {body : List Stmt} {h₀ : ExceptHandler} {hds : List ExceptHandler} {l : List (Value × (Addr → Value → Option Addr → TS))} {pos : Pos} {tb : WX → TS} {Wout : WX}
theorem ps_try_keep (hx0 : X.ex = []) (hs : X.stack = X.env :: X.outer) (hf : X.env.frame = some X.env.locals) (hN : X.N.Nodup) (hi : X.N[i]? = some n) (hln : X.env.kindOf n = some .local) (tk : Takes X Wout)
    (hb : ∀ (W : WX) (pn : List (Addr × Obj)) (xe : Value → Shared → Prop), Takes (X.tr pn xe) W → PassesOwn (model X.prog X.w) X.A X.env xe → PSs (X.tr pn xe) body (tb W))
    (hh : HdsAs X n (h₀ :: hds) l) : PS X (.Try body (h₀ :: hds) [] [] pos) (fun D σ H => tb (wKeepAs X.K i Wout D l) D σ H) := by
  refine ⟨fun pins s σ H D I h => ?_⟩
  have ok := I.ok
  have hfr : X.A.frames = some (X.env :: X.outer) := by rw [ok.frames, hs]
  have hloc : Loc X.env.scope n := .inl hln
  refine wpAny_Try_except ?_
  refine wpAny_mono ((hb (wKeepAs X.K i Wout D l) (X.pn ++ pins) (fun e s₁ => wpAny (model X.prog X.w) X.A (noteFrame e X.env) (fun _ s₂ => wpAny (model X.prog X.w) X.A (setFlight e none) (fun _ s₃ =>
    wpAny (model X.prog X.w) X.A (handleBy e X.env (h₀ :: hds)) (SP X pins D) X.xe s₃) X.xe s₂) X.xe s₁) (fun u s' xx => ?_) PassesOwn.looking).run [] s σ H D (I.toTry _) h) (fun f s1 hsp => ?_) (fun e s1 he => he)
  · -- the catch
    obtain ⟨a, B, sI, pins', σ', H', cls, d, rfl, J', nb, up, sky, na, os, ag, w⟩ := xx
    have J : Inv X pins σ' H' sI := J'.ofTry ok
    have sky' : Sky B (X.env :: X.outer) a (Zc cls d) X.env.locals s'.heap := by rw [← hs]; exact sky
    show wpAny (model X.prog X.w) X.A (noteFrame (.ref a) X.env) _ _ _
    refine Sky.land Zc.steady hfr hf sky' fun h3 fl3 up3 => ?_
    have J3 : Inv X pins σ' H' { s' with heap := h3 } := J.landed nb fl3.1 (up.trans up3) os ag
    obtain ⟨oe3, vs3, he3, hz3, hd3⟩ := fl3.there
    have notFr : ∀ {h : Heap} {o : Obj} {vs : Array Value}, h.FunFrames B (X.env :: X.outer) → h.get? a = some o → o.data = .fields vs → a ∉ frs (X.env :: X.outer) := fun {h o vs} ff e dd hm => by
      obtain ⟨_, o', e', hnf⟩ := ff.mem hm
      rw [e] at e'; cases e'
      exact hnf _ dd
    have nfr := notFr fl3.2.2.1 he3 hd3
    have nL : a ≠ X.env.locals := fun z => nfr (List.mem_filterMap.mpr ⟨X.env, List.mem_cons_self, by rw [hf, z]⟩)
    have nF : a ∉ X.fs := fun hm => by
      obtain ⟨e, he, q⟩ := List.mem_filterMap.mp hm
      exact nfr (List.mem_filterMap.mpr ⟨e, List.mem_cons_of_mem _ he, q⟩)
    have S3 := J3.suite he3 hd3 na nL nF
    have new := Inv.newIn J hx0 (a := a) (by
      cases e : sI.heap.get? a with
      | none => rfl
      | some o =>
        have := nb a o e (by rw [hs]; exact nfr)
        rw [fl3.2.1] at this
        cases this)
    have go : ∀ {hds' : List ExceptHandler} {l' : List (Value × (Addr → Value → Option Addr → TS))}, HdsAs X n hds' l' → wKeepAs X.K i Wout D l' cls d σ' H' →
        wpAny (model X.prog X.w) X.A (handleBy (.ref a) X.env hds') (SP X pins D) X.xe { s' with heap := h3 } := by
      intro hds' l' hk
      induction hk with
      | nil =>
        intro w
        refine wpAny_handleBy_nil ?_
        obtain ⟨k1, k2, k3, oe, vs, T, oT, ts', he, hz, hd, h1, hr⟩ := id fl3
        unfold PySem.passOn
        refine wpAny_bind (wpAny_field he hd h1 ?_)
        rw [if_neg (show ¬ ((Value.ref T == Value.none) = true) from by simp)]
        have fin : wpAny (model X.prog X.w) X.A (setFlight (.ref a) X.env.frame) (fun _ s4 => wpAny (model X.prog X.w) X.A (throw (.ref a) : Sem Flow) (SP X pins D) X.xe s4) X.xe { s' with heap := h3 } := by
          rw [hf]
          refine HandSPX.setFlight_upZ fl3 fun h4 hh4 up4 => wpAny_throw (tk _ _ ?_)
          exact ⟨a, B, sI, pins, σ', H', cls, d, rfl, J, nb, (up.trans up3).trans up4, .inr (.inr (by rw [hs]; exact hh4)), na, os, ag, w⟩
        first
          | exact wpAny_bind (wpAny_pure (wpAny_bind fin))
          | exact wpAny_bind fin
      | @cons x c ts b₀ suite np pos' hds2 l2 hc hsu r ih =>
        intro w
        obtain ⟨b, hb1, hyes, hno⟩ := w
        refine wpAny_handleBy_cons (codeAny_handlers_test ?_) (by intro q; cases q)
        have LT : PySem.W.Looks (model X.prog X.w) h3 (typeOf (.ref a)) cls := fun A Q E s k q => wpAny_typeOf_ref (k _ _ he3) (by rw [hz3.1]; exact q)
        have LM := PySem.W.exm_one (M := model X.prog X.w) (J3.kIn) LT hb1
        have test : ∀ {Q : Value → Shared → Prop} {E : Value → Shared → Prop}, Q c { s' with heap := h3 } → wpAny (model X.prog X.w) (X.A.mark (some (.ref a))) (eval (.Name x np) X.env) Q E { s' with heap := h3 } := fun {Q E} q => by
          obtain ⟨hg, hdbg, hm | ⟨hm, hv, hnn⟩⟩ := hc
          · exact ld_glob (X := X.suite a ((a, oe3) :: (X.pn ++ pins))) S3 hg hm q hdbg
          · exact ld_blt (X := X.suite a ((a, oe3) :: (X.pn ++ pins))) S3 hg hm hv q hnn hdbg
        refine test (LM.here ?_)
        cases b with
        | true =>
          refine codeAny_handlers_suite_as ?_
          refine HandSPX.lands_againZ fl3 fun h4 fl4 up4 => ?_
          have J4 : Inv X pins σ' H' { s' with heap := h4 } := J.landed nb fl4.1 ((up.trans up3).trans up4) os ag
          obtain ⟨oe4, vs4, he4, hz4, hd4⟩ := fl4.there
          have S4 := J4.suite he4 hd4 na nL nF
          refine store_ok (X := X.suite a ((a, oe4) :: (X.pn ++ pins))) (v := .ref a) S4 hN hi hloc rfl (fun s5 S5 => ?_) (.inr hln)
          refine wpAny_mono ((hsu a oe4 cls d (X.pn ++ pins) hz4 ⟨_, hd4⟩).run [] s5 _ H' _ S5 (hyes rfl a na)) (fun f s6 hsp => ?_) (fun _ _ z => False.elim z)
          have end_ : ∀ {σ6 : L2.St} {H6 : Hp} {Q : Shared → Prop}, Inv (X.suite a ((a, oe4) :: (X.pn ++ pins))) [] σ6 H6 s6 → (∀ s7, Inv X pins (σ6.set i none) H6 s7 → Q s7) →
              wpAny (model X.prog X.w) X.A (do bindName X.env n .none; unbindBehindTheSuite X.env n pos') (fun _ s7 => Q s7) X.xe s6 := fun {σ6 H6 Q} S6 hq => gone_ok (S6.unsuite ok) hN hi hln hq
          cases f with
          | next =>
            obtain ⟨σ6, H6, S6, q6⟩ := hsp
            obtain ⟨ha6, na6, _, _, _⟩ := S6.pin (a, oe4) (List.mem_append.mpr (.inl List.mem_cons_self))
            exact gone_ok (Inv.track (S6.unsuite ok) ha6 hz4 hd4 na6 new.1 new.2.1 new.2.2.1 new.2.2.2) hN hi hln fun s7 J7 => ⟨_, _, J7, q6⟩
          | brk =>
            obtain ⟨σ6, H6, S6, q6⟩ := hsp
            exact end_ S6 fun s7 J7 => ⟨_, _, J7, q6⟩
          | cont =>
            obtain ⟨σ6, H6, S6, q6⟩ := hsp
            exact end_ S6 fun s7 J7 => ⟨_, _, J7, q6⟩
          | ret u =>
            obtain ⟨v6, σ6, H6, S6, r6, q6⟩ := hsp
            exact end_ S6 fun s7 J7 => ⟨_, _, _, J7, r6, q6⟩
        | false =>
          show wpAny _ X.A (handleBy (.ref a) X.env hds2) _ _ _
          exact ih (hno rfl)
    exact go hh w
  · cases f with
    | next =>
      obtain ⟨σ', H', J', q⟩ := hsp
      exact wpAny_execs_nil ⟨σ', H', J'.ofTry ok, q⟩
    | brk =>
      obtain ⟨σ', H', J', q⟩ := hsp
      exact ⟨σ', H', J'.ofTry ok, q⟩
    | cont =>
      obtain ⟨σ', H', J', q⟩ := hsp
      exact ⟨σ', H', J'.ofTry ok, q⟩
    | ret u =>
      obtain ⟨v, σ', H', J', r, q⟩ := hsp
      exact ⟨v, σ', H', J'.ofTry ok, r, q⟩
end
/-! ### isinstance of it, its value -/
/-- what isinstance asks of the class of an error -/
structure ExcI (K : PySem.W.Frag) (D : Addr) : Prop where
  xf : XfC K D
  ha : PySem.W.findIn K (.ref D) "__class__" = some (some (.builtin "object.__class__"))
  hn : PySem.W.specialIn K (.builtin "object.__class__") "__get__" = some (some (.builtin "getset_descriptor.__get__"))
  ht : PySem.W.takesIn K (.builtin "object.__class__") = some true
  hm : PySem.W.mroIn K D (.type "object") = some true
/-- its class by name, the error with a dict of its own -/
theorem cls_named {prog : Program} {w : World} {A : Around} {F : Value → Shared → Prop} {st : Shared} {K : PySem.W.Frag} {a C : Addr} {oe od : Obj} {G : Option Value → Shared → Prop} (c : ExcI K C) (hK : K.In st.heap) (J : PySem.W.InstAt st.heap a oe C (some od))
    (g : G (some (.ref C)) { st with toks := st.toks + 1 }) : wpAny (model prog w) A (getAttr? (.ref a) "__class__") G F st := by
  have found : PySem.W.findObj K C (some od) "__class__" = some (.bind (.builtin "getset_descriptor.__get__") (.builtin "object.__class__")) := by
    refine PySem.W.findObj_data ?_ c.ha c.hn c.ht
    obtain ⟨kd, hk, _⟩ := PySem.W.any_some c.xf.hdC
    rw [hk]
    rfl
  obtain ⟨hh, gs, dr, tk, o5⟩ := st
  have isC := J.type (M := model prog w)
  have isGa := PySem.W.looks_findIn (M := model prog w) hK c.xf.ga
  have isGg := PySem.W.looks_findIn (M := model prog w) hK c.xf.gg
  have isIt := PySem.W.looks_find (M := model prog w) hK J found
  have isSub : PySem.W.Looks (model prog w) hh (isInstance (.ref a) (.type "BaseException")) true := isC.andThen (PySem.W.looks_subIn hK c.xf.exC)
  have n1 : (Value.builtin "BaseException.__getattribute__" == Value.builtin "object.__getattribute__") = false := by decide +kernel
  have n2 : (onTheHeap (Value.ref C) && Value.builtin "BaseException.__getattribute__" == Value.builtin "object.__getattribute__") = false := by rw [n1]; exact Bool.and_false _
  have n3 : (false && onTheHeap (Value.builtin "BaseException.__getattribute__")) = false := Bool.false_and _
  unfold getAttr? getAttrBy? getAttrBy
  refine wpAny_bind (wpAny_mkText (wpAny_bind (wpAny_attempt (wpAny_holding (wpAny_bind (isC.at (wpAny_bind (isGa.at ?_))))))))
  change wpAny _ _ (if (onTheHeap (Value.ref C) && Value.builtin "BaseException.__getattribute__" == Value.builtin "object.__getattribute__") = true then _ else _) _ _ _
  rw [n2]
  rw [if_neg Bool.false_ne_true]
  unfold getAttrByItsOwn hookBefore
  refine wpAny_bind ?_
  have n4 : onTheHeap (Value.ref C) = true := by rfl
  rw [if_pos n4]
  refine isGg.at (wpAny_bind (wpAny_attempt (wpAny_holding ?_)))
  unfold callGetattribute
  rw [n3]
  rw [if_neg Bool.false_ne_true]
  unfold boundAndCalled
  rw [PySem.F.excAttr_ValueError.ga.bind (.ref a)]
  refine wpAny_bind (wpAny_pure ?_)
  change wpAny _ _ (call (.builtin "BaseException.__getattribute__") [.ref a, .str "__class__" tk]) _ _ _
  refine wpAny_call (codeAny_call_builtin PySem.F.excAttr_ValueError.ga.plain PySem.F.entry_bexc_ga ?_)
  refine @PySem.W.check_slot (model prog w) _ _ ⟨hh, gs, dr, tk + 1, o5⟩ "BaseException.__getattribute__" "BaseException" "__getattribute__" (.ref a) [.str "__class__" tk] [] _ (by decide +kernel) (by decide +kernel) isSub (PySem.F.args_bexc_ga _ _) ?_
  unfold Builtin.«object.__getattribute__»
  refine wpAny_bind (wpAny_of_eq (a := ((Value.ref a : Value), [Value.str "__class__" tk])) (by first | rfl | (simp only [slotArgs]; rfl)) (wpAny_bind (wpAny_pure (wpAny_bind (isC.at (wpAny_bind (isIt.at ?_)))))))
  change wpAny _ _ (holding [Value.builtin "object.__class__"] (call (.builtin "getset_descriptor.__get__") [.builtin "object.__class__", .ref a, .ref C]) >>= ret) _ _ _
  refine wpAny_bind (wpAny_holding (wpAny_call (PySem.W.class_get (s := ⟨hh, gs, dr, tk + 1, o5⟩) (ox := oe) (od := some od) hK J c.hm (wpAny_pure ?_))))
  change wpAny _ _ (handedOut (.ref C)) _ _ _
  rw [PySem.W.handedOut_of (v := .ref C) rfl]
  first
    | exact wpAny_pure g
    | exact wpAny_pure (wpAny_pure g)
    | exact wpAny_pure (wpAny_bind (wpAny_pure (wpAny_pure g)))
/-- the error is an object of its class, its dict there -/
theorem kit_err {K : PySem.W.Frag} {a C : Addr} {oe od : Obj} (c : ExcI K C) : PySem.W.KitX K (.ref a) (.ref C) (fun h => PySem.W.InstAt h a oe C (some od)) where
  ty := fun _ _ _ J => J.type
  it := fun _ h hK _ => by
    obtain ⟨kd, hk, _⟩ := PySem.W.any_some c.xf.hdC
    unfold PySem.W.clsIn at hk
    split at hk
    · rename_i e1 e2 e3 e4 there
      intro B R' F' st keep goal
      unfold isType loadHead
      exact wpAny_bind (wpAny_loadPart (keep _ _ (hK _ _ there)) (wpAny_pure goal))
    · cases hk
  ne := fun h t dd is m sl hK ht => by
    obtain ⟨kd, hk, _⟩ := PySem.W.any_some c.xf.hdC
    cases q : (Value.ref C == Value.ref t) with
    | false => rfl
    | true =>
      obtain rfl : C = t := Value.ref.inj (beq_iff_eq.mp q)
      unfold PySem.W.clsIn at hk
      split at hk
      · rename_i e1 e2 e3 e4 there
        have z := (hK _ _ there).symm.trans ht
        cases z
      · cases hk
  ca := fun hK J g => cls_named c hK J g
/-- isinstance(x, c): x a kept error, or any other thing as before -/
def rIsiE (K : PySem.W.Frag) : List V → Hp → VK → Prop := fun xs H Q => rIsi K xs H Q ∨ ∃ (a C dd : Addr) (fs : List (Str × V)) (c : V) (u : Value) (b : Bool), xs = [.ref a, c] ∧ H a = some (ExK (.ref C) (some dd) a) ∧ H dd = some (.xd fs) ∧ ExcI K C ∧ ClsV c u ∧ PySem.W.kitOne K (.ref C) u = some b ∧ Q (.bl b) H
section
variable {X : Cx}
theorem inst_kept {pins : List (Addr × Obj)} {σ : L2.St} {H : Hp} {s : Shared} {a C dd : Addr} {fs : List (Str × V)} (I : Inv X pins σ H s) (ha : H a = some (ExK (.ref C) (some dd) a)) (hd : H dd = some (.xd fs)) :
    ∃ (oe od : Obj) (mA : Str → Option Value), PySem.W.InstAt s.heap a oe C (some od) ∧ s.heap.get? dd = some od ∧ (∀ n, PySem.W.lookIn n od = some (mA n)) ∧ ∀ f, RelO (fs.lookup f) (mA f) := by
  obtain ⟨⟨oe, vs, he, hz, hv⟩, _⟩ := I.hok a _ ha
  obtain ⟨mA, hns, hr⟩ := (show ObjOk X.prog X.w H s.heap dd (.xd fs) from I.hok dd _ hd)
  obtain ⟨od, ho, hl⟩ := lookIn_ns hns
  exact ⟨oe, od, mA, ⟨he, hz.1, by unfold PySem.W.notCls; rw [hv] <;> rfl, by rw [hz.2]; exact ho⟩, ho, hl, hr⟩
theorem call_isiE : CallR X (.builtin "isinstance") (rIsiE X.K) := by
  intro pins s σ H xs us Q I r h
  rcases h with h | ⟨a, C, dd, fs, c, u, b, rfl, ha, hd, hc, hu, hk, q⟩
  · exact call_isi pins s σ H xs us Q I r h
  · obtain ⟨oe, od, mA, J, _⟩ := inst_kept I ha hd
    obtain ⟨u1, u2, rfl, r1, r2⟩ := r.two
    obtain rfl : u1 = Value.ref a := r1
    obtain rfl := hu.eq r2
    exact PySem.W.kia_one (kit_err hc) I.kIn J hk (fun z => nomatch z) fun tk => ⟨.bl b, H, I.tok tk, rfl, q⟩
theorem k_isiE (K : PySem.W.Frag) (h : X.K = K) : CallR X (.builtin "isinstance") (rIsiE K) := by subst h; exact call_isiE
/-- err.f of a kept error -/
def tXfK (K : PySem.W.Frag) (f : Str) (te : TE) : TE := fun σ H Q => te σ H fun x H1 => ∃ (a C dd : Addr) (fs : List (Str × V)) (v : V), x = .ref a ∧ H1 a = some (ExK (.ref C) (some dd) a) ∧ H1 dd = some (.xd fs) ∧ XfC K C ∧ PySem.W.findIn K (.ref C) f = some none ∧ fs.lookup f = some v ∧ Q v H1
theorem pe_xfK {e : Expr} {te : TE} {pos : Pos} {n : Str} (he : PE X e te) (hb : attributeBase e n X.env (eval e X.env) = eval e X.env := by rfl) : PE X (.Attribute e n pos) (tXfK X.K n te) := by
  refine ⟨fun pins s σ H Q I h => ?_⟩
  refine attr_of hb (thn (he.run pins s σ H _ I h) fun u s1 hh => ?_)
  obtain ⟨x, H1, I1, rx, a, C, dd, fs, v, ex, ha, hd, T, hno, l, q⟩ := hh
  subst ex
  obtain rfl : u = Value.ref a := rx
  obtain ⟨oe, od, mA, J, ho, hl, hr⟩ := inst_kept I1 ha hd
  obtain ⟨u, hu, ru⟩ := RelO.some_of (v := v) (o := mA n) (by rw [← l]; exact hr n)
  exact HandSPX.exc_get I1.kIn J T.ga T.gg T.exC (PySem.W.findObj_own T.hdC hno rfl (by rw [hl, hu])) (handed_of ru) ⟨v, H1, I1.tok _, ru, q⟩
end
end My

namespace My
/-! ### rows by rules, modulo a number: a rule that leads another one -/
/-- a sum of the first n -/
def sumN : Nat → (Nat → Int) → Int
  | 0, _ => 0
  | n + 1, f => sumN n f + f n
theorem sumN_congr {n : Nat} {f g : Nat → Int} (h : ∀ i, i < n → f i = g i) : sumN n f = sumN n g := by
  induction n with
  | zero => rfl
  | succ n ih => rw [sumN, sumN, ih fun i hi => h i (by omega), h n (Nat.lt_succ_self n)]
theorem sumN_zero (n : Nat) : sumN n (fun _ => 0) = 0 := by
  induction n with
  | zero => rfl
  | succ n ih => rw [sumN, ih]; rfl
theorem sumN_none {n : Nat} {f : Nat → Int} (h : ∀ i, i < n → f i = 0) : sumN n f = 0 := (sumN_congr h).trans (sumN_zero n)
theorem sumN_add (n : Nat) (f g : Nat → Int) : sumN n (fun i => f i + g i) = sumN n f + sumN n g := by
  induction n with
  | zero => rfl
  | succ n ih => rw [sumN, sumN, sumN, ih]; omega
theorem sumN_mul (n : Nat) (c : Int) (f : Nat → Int) : sumN n (fun i => c * f i) = c * sumN n f := by
  induction n with
  | zero => simp [sumN]
  | succ n ih => rw [sumN, sumN, ih, Int.mul_add]
theorem sumN_front (n : Nat) (f : Nat → Int) : sumN (n + 1) f = f 0 + sumN n fun i => f (i + 1) := by
  induction n with
  | zero => simp [sumN]
  | succ n ih => rw [sumN, ih, sumN]; omega
theorem sumN_rev (n : Nat) (f : Nat → Int) : sumN n (fun i => f (n - 1 - i)) = sumN n f := by
  induction n generalizing f with
  | zero => rfl
  | succ n ih =>
    rw [sumN_front, sumN]
    have : (sumN n fun i => f (n + 1 - 1 - (i + 1))) = sumN n f := by
      rw [← ih f]
      refine sumN_congr fun i hi => ?_
      congr 1
      omega
    rw [this]
    show f n + _ = _
    omega
theorem sumN_cut {n k : Nat} (h : k ≤ n) {f : Nat → Int} (z : ∀ i, k ≤ i → i < n → f i = 0) : sumN n f = sumN k f := by
  induction n with
  | zero => obtain rfl : k = 0 := by omega
            rfl
  | succ n ih =>
    by_cases e : k = n + 1
    · rw [e]
    · rw [sumN, z n (by omega) (Nat.lt_succ_self n), ih (by omega) fun i h1 h2 => z i h1 (by omega)]
      omega
theorem sumN_swap (n m : Nat) (f : Nat → Nat → Int) : sumN n (fun i => sumN m (f i)) = sumN m fun j => sumN n fun i => f i j := by
  induction n with
  | zero => simp only [sumN]; exact (sumN_zero m).symm
  | succ n ih =>
    rw [sumN, ih, ← sumN_add]
    rfl
theorem sumN_dvd {N : Int} {n : Nat} {f : Nat → Int} (h : ∀ i, i < n → N ∣ f i) : N ∣ sumN n f := by
  induction n with
  | zero => exact Int.dvd_zero N
  | succ n ih => exact Int.dvd_add (ih fun i hi => h i (by omega)) (h n (Nat.lt_succ_self n))
theorem sumN_only {n k : Nat} (hk : k < n) {f : Nat → Int} (z : ∀ i, i < n → i ≠ k → f i = 0) : sumN n f = f k := by
  induction n with
  | zero => omega
  | succ n ih =>
    rw [sumN]
    by_cases e : k = n
    · subst e
      rw [sumN_none fun i hi => z i (by omega) (by omega)]
      omega
    · rw [ih (by omega) fun i hi ne => z i (by omega) ne, z n (Nat.lt_succ_self n) (fun q => e q.symm)]
      omega
section
variable (N : Int) (w : List Int)
/-- the row follows the rule w -/
def Fol (r : Nat → Int) : Prop := ∀ i, N ∣ r (i + w.length) - sumN w.length fun b => w.getD b 0 * r (i + w.length - 1 - b)
/-- a power led down: k weights done -/
def updW (f : Nat → Int) (top k : Nat) : Nat → Int := fun p => if p < top ∧ top - 1 - p < k then (f p + f top * w.getD (top - 1 - p) 0) % N else f p
/-- powers from the t-th on led down -/
def ledN (f : Nat → Int) (L : Nat) : Nat → Nat → Int
  | 0 => f
  | t + 1 => updW N w (ledN f L t) (L - 1 - t) w.length
/-- what is led: the rule q as powers -/
def iniP (q : List Int) : Nat → Int := fun p => q.getD p 0 % N
/-- how many powers there are at first -/
def lenP (q : List Int) : Nat := max q.length w.length
def redP (q : List Int) : Nat → Int := ledN N w (iniP N q) (lenP w q) (lenP w q - w.length)
variable {N w}
theorem upd_same_sum (hN : 0 < N) {f r : Nat → Int} (hr : Fol N w r) {top : Nat} (ht : w.length ≤ top) (i : Nat) : N ∣ sumN top (fun p => updW N w f top w.length p * r (i + p)) - sumN (top + 1) fun p => f p * r (i + p) := by
  rw [sumN]
  have h1 : N ∣ sumN top (fun p => updW N w f top w.length p * r (i + p)) - sumN top fun p => (f p + if top - 1 - p < w.length then f top * w.getD (top - 1 - p) 0 else 0) * r (i + p) := by
    have e : sumN top (fun p => updW N w f top w.length p * r (i + p)) - sumN top (fun p => (f p + if top - 1 - p < w.length then f top * w.getD (top - 1 - p) 0 else 0) * r (i + p)) = sumN top fun p => (updW N w f top w.length p - (f p + if top - 1 - p < w.length then f top * w.getD (top - 1 - p) 0 else 0)) * r (i + p) := by
      rw [Int.sub_eq_add_neg, ← Int.neg_one_mul, ← sumN_mul, ← sumN_add]
      refine sumN_congr fun p _ => ?_
      rw [Int.neg_one_mul, ← Int.sub_eq_add_neg, Int.sub_mul]
    rw [e]
    refine sumN_dvd fun p hp => ?_
    refine Int.dvd_mul_of_dvd_left ?_
    unfold updW
    by_cases c : top - 1 - p < w.length
    · rw [if_pos ⟨hp, c⟩, if_pos c]
      have := Int.dvd_self_sub_emod (x := f p + f top * w.getD (top - 1 - p) 0) (m := N)
      rw [← Int.neg_sub]
      exact Int.dvd_neg.mpr this
    · rw [if_neg fun z => c z.2, if_neg c, Int.add_zero, Int.sub_self]
      exact Int.dvd_zero N
  have h2 : sumN top (fun p => (f p + if top - 1 - p < w.length then f top * w.getD (top - 1 - p) 0 else 0) * r (i + p)) = sumN top (fun p => f p * r (i + p)) + f top * sumN w.length fun b => w.getD b 0 * r (i + top - 1 - b) := by
    have e1 : (fun p => (f p + if top - 1 - p < w.length then f top * w.getD (top - 1 - p) 0 else 0) * r (i + p)) = fun p => f p * r (i + p) + (if top - 1 - p < w.length then f top * w.getD (top - 1 - p) 0 else 0) * r (i + p) := by
      funext p
      rw [Int.add_mul]
    rw [e1, sumN_add]
    congr 1
    rw [← sumN_mul]
    have e2 : sumN top (fun p => (if top - 1 - p < w.length then f top * w.getD (top - 1 - p) 0 else 0) * r (i + p)) = sumN top fun p => (fun b => (if b < w.length then f top * w.getD b 0 else 0) * r (i + top - 1 - b)) (top - 1 - p) := by
      refine sumN_congr fun p hp => ?_
      dsimp only
      rw [show i + top - 1 - (top - 1 - p) = i + p by omega]
    refine e2.trans ((sumN_rev top fun b => (if b < w.length then f top * w.getD b 0 else 0) * r (i + top - 1 - b)).trans ?_)
    rw [sumN_cut ht fun b h1 h2 => by rw [if_neg (by omega), Int.zero_mul]]
    refine sumN_congr fun b hb => ?_
    rw [if_pos hb, Int.mul_assoc]
  have h3 : N ∣ f top * sumN w.length (fun b => w.getD b 0 * r (i + top - 1 - b)) - f top * r (i + top) := by
    rw [← Int.mul_sub]
    refine Int.dvd_mul_of_dvd_right ?_
    have := hr (i + top - w.length)
    rw [show i + top - w.length + w.length = i + top by omega] at this
    rw [← Int.neg_sub]
    exact Int.dvd_neg.mpr this
  rw [h2] at h1
  have h4 := Int.dvd_add h1 h3
  have e : ∀ a b c d : Int, (a - (b + c)) + (c - d) = a - (b + d) := fun a b c d => by omega
  rw [e] at h4
  exact h4
theorem led_sum (hN : 0 < N) {f r : Nat → Int} (hr : Fol N w r) {L : Nat} (i : Nat) : ∀ t, t + w.length ≤ L → N ∣ sumN (L - t) (fun p => ledN N w f L t p * r (i + p)) - sumN L fun p => f p * r (i + p)
  | 0, _ => by rw [Nat.sub_zero]; exact ⟨0, by rw [Int.mul_zero]; exact Int.sub_self _⟩
  | t + 1, h => by
    have ih := led_sum hN (f := f) hr (L := L) i t (by omega)
    have h1 := upd_same_sum hN (f := ledN N w f L t) hr (top := L - 1 - t) (by omega) i
    rw [show L - 1 - t + 1 = L - t by omega] at h1
    rw [show L - (t + 1) = L - 1 - t by omega]
    have := Int.dvd_add h1 ih
    rw [show ∀ a b c : Int, a - b + (b - c) = a - c from fun a b c => by omega] at this
    exact this
/-- led powers tell the same of all rows by the rule -/
theorem red_sum (hN : 0 < N) {r : Nat → Int} (hr : Fol N w r) (q : List Int) (i : Nat) : N ∣ sumN w.length (fun p => redP N w q p * r (i + p)) - sumN q.length fun p => q.getD p 0 * r (i + p) := by
  have h1 := led_sum hN (f := iniP N q) hr (L := lenP w q) i (lenP w q - w.length) (by unfold lenP; omega)
  rw [show lenP w q - (lenP w q - w.length) = w.length by unfold lenP; omega] at h1
  have h2 : N ∣ sumN (lenP w q) (fun p => iniP N q p * r (i + p)) - sumN q.length fun p => q.getD p 0 * r (i + p) := by
    rw [← sumN_cut (n := lenP w q) (k := q.length) (f := fun p => q.getD p 0 * r (i + p)) (by unfold lenP; omega) fun p h1 _ => by rw [List.getD_eq_getElem?_getD, List.getElem?_eq_none h1]; exact Int.zero_mul _]
    have e : sumN (lenP w q) (fun p => iniP N q p * r (i + p)) - sumN (lenP w q) (fun p => q.getD p 0 * r (i + p)) = sumN (lenP w q) fun p => (iniP N q p - q.getD p 0) * r (i + p) := by
      rw [Int.sub_eq_add_neg, ← Int.neg_one_mul, ← sumN_mul, ← sumN_add]
      refine sumN_congr fun p _ => ?_
      rw [Int.neg_one_mul, ← Int.sub_eq_add_neg, Int.sub_mul]
    rw [e]
    refine sumN_dvd fun p _ => Int.dvd_mul_of_dvd_left ?_
    unfold iniP
    have := Int.dvd_self_sub_emod (x := q.getD p 0) (m := N)
    rw [← Int.neg_sub]
    exact Int.dvd_neg.mpr this
  have := Int.dvd_add h1 h2
  rw [show ∀ a b c : Int, a - b + (b - c) = a - c from fun a b c => by omega] at this
  exact this
theorem led_range (hN : 0 < N) {f : Nat → Int} (hf : ∀ p, 0 ≤ f p ∧ f p < N) (L : Nat) : ∀ t p, 0 ≤ ledN N w f L t p ∧ ledN N w f L t p < N
  | 0, p => hf p
  | t + 1, p => by
    rw [ledN]
    unfold updW
    split
    · exact ⟨Int.emod_nonneg _ (by omega), Int.emod_lt_of_pos _ hN⟩
    · exact led_range hN hf L t p
theorem red_range (hN : 0 < N) (q : List Int) (p : Nat) : 0 ≤ redP N w q p ∧ redP N w q p < N := led_range hN (fun p => ⟨Int.emod_nonneg _ (by omega), Int.emod_lt_of_pos _ hN⟩) _ _ _
/-- where all is led to nought, all rows by the rule tell nought -/
theorem red_none (hN : 0 < N) {r : Nat → Int} (hr : Fol N w r) {q : List Int} (hz : ∀ p, p < w.length → redP N w q p = 0) (i : Nat) : N ∣ sumN q.length fun p => q.getD p 0 * r (i + p) := by
  have := red_sum hN hr q i
  rw [sumN_none fun p hp => by rw [hz p hp, Int.zero_mul], Int.zero_sub] at this
  exact Int.dvd_neg.mp this
/-- the last one alone -/
def Alo (m : Nat) (r : Nat → Int) : Prop := (∀ p, p + 1 < m → r p = 0) ∧ (0 < m → r (m - 1) = -1)
/-- otherwise the row from the last one alone tells where it first does not -/
theorem red_some (hN : 0 < N) {r : Nat → Int} (hr : Fol N w r) (ha : Alo w.length r) {q : List Int} {t : Nat} (ht : t < w.length) (hn : redP N w q t ≠ 0) (hz : ∀ p, t < p → p < w.length → redP N w q p = 0) :
    (∀ i, i < w.length - 1 - t → N ∣ sumN q.length fun p => q.getD p 0 * r (i + p)) ∧ ¬ N ∣ sumN q.length fun p => q.getD p 0 * r (w.length - 1 - t + p) := by
  constructor
  · intro i hi
    have := red_sum hN hr q i
    rw [sumN_none fun p hp => ?_, Int.zero_sub] at this
    · exact Int.dvd_neg.mp this
    · by_cases c : t < p
      · rw [hz p c hp, Int.zero_mul]
      · rw [ha.1 _ (by omega), Int.mul_zero]
  · intro hd
    have h1 := red_sum hN hr q (w.length - 1 - t)
    have h2 := Int.dvd_add h1 hd
    rw [show ∀ a b : Int, a - b + b = a from fun a b => by omega, sumN_only (k := t) ht fun p hp ne => ?_] at h2
    · rw [show w.length - 1 - t + t = w.length - 1 by omega, ha.2 (by omega), Int.mul_neg_one] at h2
      have h3 := Int.dvd_neg.mp h2
      obtain ⟨r1, r2⟩ := red_range (w := w) hN q t
      have := Int.le_of_dvd (by omega) h3
      omega
    · by_cases c : t < p
      · rw [hz p c hp, Int.zero_mul]
      · rw [ha.1 _ (by omega), Int.mul_zero]
end
/-- the rule as powers -/
def asP (u : List Int) : List Int := u.reverse.map (fun x => -x) ++ [1]
theorem asP_len (u : List Int) : (asP u).length = u.length + 1 := by unfold asP; rw [List.length_append, List.length_map, List.length_reverse]; rfl
/-- what the powers tell: the next one less the sum -/
theorem asP_sum (u : List Int) (r : Nat → Int) (i : Nat) : (sumN (asP u).length fun p => (asP u).getD p 0 * r (i + p)) = r (i + u.length) - sumN u.length fun b => u.getD b 0 * r (i + u.length - 1 - b) := by
  rw [asP_len, sumN]
  have e1 : (asP u).getD u.length 0 = 1 := by
    unfold asP
    rw [List.getD_eq_getElem?_getD, List.getElem?_append_right (by rw [List.length_map, List.length_reverse]; exact Nat.le_refl _), List.length_map, List.length_reverse, Nat.sub_self]
    rfl
  have e2 : (sumN u.length fun p => (asP u).getD p 0 * r (i + p)) = - sumN u.length fun b => u.getD b 0 * r (i + u.length - 1 - b) := by
    rw [← sumN_rev u.length fun b => u.getD b 0 * r (i + u.length - 1 - b), ← Int.neg_one_mul, ← sumN_mul]
    refine sumN_congr fun p hp => ?_
    have e3 : (asP u).getD p 0 = -(u.getD (u.length - 1 - p) 0) := by
      unfold asP
      rw [List.getD_eq_getElem?_getD, List.getElem?_append_left (by rw [List.length_map, List.length_reverse]; exact hp), List.getElem?_map, List.getElem?_reverse hp, List.getD_eq_getElem?_getD, List.getElem?_eq_getElem (by omega)]
      rfl
    rw [e3, show i + u.length - 1 - (u.length - 1 - p) = i + p by omega, Int.neg_mul, Int.neg_one_mul]
  rw [e1, e2, Int.one_mul]
  omega
theorem fol_asP {N : Int} {w : List Int} {r : Nat → Int} : Fol N w r ↔ ∀ i, N ∣ sumN (asP w).length fun p => (asP w).getD p 0 * r (i + p) := by
  unfold Fol
  constructor
  · intro h i; rw [asP_sum]; exact h i
  · intro h i; have := h i; rwa [asP_sum] at this
end My

namespace My
open PySem PySem.Spec PyProof.Rows L2
theorem nil_binds {K : PySem.W.Frag} {fd : FuncData} {ps : List Str} (h : ∃ ds, Vals [] ds ∧ Binds K fd ps ds) : Binds K fd ps [] := by
  obtain ⟨ds, v, b⟩ := h
  cases v
  exact b
def top (i : Nat) : Stmt := PySem.Challenge.pw_wholesound_k23_firsts_that_return.main.body.getD i (.Pass ⟨0, 0, 0, 0⟩)
abbrev s_wall : Stmt := top 0
abbrev N_wall : List Str := ["k"]
theorem sc_wall : FnScope N_wall ["k"] (defScope s_wall) := ⟨rfl, rfl, rfl, by decide +kernel, rfl, by decide +kernel, by decide +kernel⟩
abbrev s_is_whole : Stmt := top 8
abbrev N_is_whole : List Str := ["value"]
theorem sc_is_whole : FnScope N_is_whole ["value"] (defScope s_is_whole) := ⟨rfl, rfl, rfl, by decide +kernel, rfl, by decide +kernel, by decide +kernel⟩
abbrev s_is_between : Stmt := top 9
abbrev N_is_between : List Str := ["value", "low", "high"]
theorem sc_is_between : FnScope N_is_between ["value", "low", "high"] (defScope s_is_between) := ⟨rfl, rfl, rfl, by decide +kernel, rfl, by decide +kernel, by decide +kernel⟩
abbrev s_are_wholes : Stmt := top 10
abbrev N_are_wholes : List Str := ["value", "item"]
theorem sc_are_wholes : FnScope N_are_wholes ["value"] (defScope s_are_wholes) := ⟨rfl, rfl, rfl, by decide +kernel, rfl, by decide +kernel, by decide +kernel⟩
abbrev s_check_depth : Stmt := top 11
abbrev N_check_depth : List Str := ["depth", "most"]
theorem sc_check_depth : FnScope N_check_depth ["depth", "most"] (defScope s_check_depth) := ⟨rfl, rfl, rfl, by decide +kernel, rfl, by decide +kernel, by decide +kernel⟩
abbrev s_check_number : Stmt := top 12
abbrev N_check_number : List Str := ["number", "low", "high"]
theorem sc_check_number : FnScope N_check_number ["number", "low", "high"] (defScope s_check_number) := ⟨rfl, rfl, rfl, by decide +kernel, rfl, by decide +kernel, by decide +kernel⟩
abbrev s_unit_rows : Stmt := top 14
abbrev N_unit_rows : List Str := ["size", "place"]
theorem sc_unit_rows : FnScope N_unit_rows ["size"] (defScope s_unit_rows) := ⟨rfl, rfl, rfl, by decide +kernel, rfl, by decide +kernel, by decide +kernel⟩
abbrev s_twos_of : Stmt := top 15
abbrev N_twos_of : List Str := ["number", "most", "found"]
theorem sc_twos_of : FnScope N_twos_of ["number", "most"] (defScope s_twos_of) := ⟨rfl, rfl, rfl, by decide +kernel, rfl, by decide +kernel, by decide +kernel⟩
abbrev s_inverse : Stmt := top 16
abbrev N_inverse : List Str := ["number", "size", "found"]
theorem sc_inverse : FnScope N_inverse ["number", "size"] (defScope s_inverse) := ⟨rfl, rfl, rfl, by decide +kernel, rfl, by decide +kernel, by decide +kernel⟩
abbrev s_dotted : Stmt := top 17
abbrev N_dotted : List Str := ["one", "other", "number", "factor"]
theorem sc_dotted : FnScope N_dotted ["one", "other"] (defScope s_dotted) := ⟨rfl, rfl, rfl, by decide +kernel, rfl, by decide +kernel, by decide +kernel⟩
abbrev s_exchange_columns : Stmt := top 18
abbrev N_exchange_columns : List Str := ["rows", "one", "other", "row"]
theorem sc_exchange_columns : FnScope N_exchange_columns ["rows", "one", "other"] (defScope s_exchange_columns) := ⟨rfl, rfl, rfl, by decide +kernel, rfl, by decide +kernel, by decide +kernel⟩
abbrev s_take_columns : Stmt := top 19
abbrev N_take_columns : List Str := ["rows", "spot", "place", "factor", "row"]
theorem sc_take_columns : FnScope N_take_columns ["rows", "spot", "place", "factor"] (defScope s_take_columns) := ⟨rfl, rfl, rfl, by decide +kernel, rfl, by decide +kernel, by decide +kernel⟩
abbrev s_reduced : Stmt := top 22
abbrev N_reduced : List Str := ["weights", "powers", "size", "many", "found", "top", "head", "back", "weight", "number"]
theorem sc_reduced : FnScope N_reduced ["weights", "powers", "size"] (defScope s_reduced) := ⟨rfl, rfl, rfl, by decide +kernel, rfl, by decide +kernel, by decide +kernel⟩
abbrev s_multiplied : Stmt := top 23
abbrev N_multiplied : List Str := ["one", "other", "found", "spot", "number", "place", "factor"]
theorem sc_multiplied : FnScope N_multiplied ["one", "other"] (defScope s_multiplied) := ⟨rfl, rfl, rfl, by decide +kernel, rfl, by decide +kernel, by decide +kernel⟩
abbrev s_moved_by : Stmt := top 24
abbrev N_moved_by : List Str := ["weights", "number", "size", "found", "base"]
theorem sc_moved_by : FnScope N_moved_by ["weights", "number", "size"] (defScope s_moved_by) := ⟨rfl, rfl, rfl, by decide +kernel, rfl, by decide +kernel, by decide +kernel⟩
abbrev s_turn_of : Stmt := top 25
abbrev N_turn_of : List Str := ["weights", "many", "rule", "number", "unmoved", "powers", "spot", "weight"]
theorem sc_turn_of : FnScope N_turn_of ["weights"] (defScope s_turn_of) := ⟨rfl, rfl, rfl, by decide +kernel, rfl, by decide +kernel, by decide +kernel⟩
abbrev s_factors_of : Stmt := top 26
abbrev N_factors_of : List Str := ["number", "found", "factor"]
theorem sc_factors_of : FnScope N_factors_of ["number"] (defScope s_factors_of) := ⟨rfl, rfl, rfl, by decide +kernel, rfl, by decide +kernel, by decide +kernel⟩
abbrev s_wrapped : Stmt := top 28
abbrev N_wrapped : List Str := ["number", "depth", "half"]
theorem sc_wrapped : FnScope N_wrapped ["number", "depth"] (defScope s_wrapped) := ⟨rfl, rfl, rfl, by decide +kernel, rfl, by decide +kernel, by decide +kernel⟩
abbrev s_check_rule : Stmt := top 33
abbrev N_check_rule : List Str := ["weights", "weight"]
theorem sc_check_rule : FnScope N_check_rule ["weights"] (defScope s_check_rule) := ⟨rfl, rfl, rfl, by decide +kernel, rfl, by decide +kernel, by decide +kernel⟩
abbrev s_told_at : Stmt := top 34
abbrev N_told_at : List Str := ["weights", "row", "spot", "back", "weight"]
theorem sc_told_at : FnScope N_told_at ["weights", "row", "spot"] (defScope s_told_at) := ⟨rfl, rfl, rfl, by decide +kernel, rfl, by decide +kernel, by decide +kernel⟩
abbrev s_gone_on : Stmt := top 35
abbrev N_gone_on : List Str := ["depth", "weights", "firsts", "many", "row"]
theorem sc_gone_on : FnScope N_gone_on ["depth", "weights", "firsts", "many"] (defScope s_gone_on) := ⟨rfl, rfl, rfl, by decide +kernel, rfl, by decide +kernel, by decide +kernel⟩
abbrev s_state_at : Stmt := top 36
abbrev N_state_at : List Str := ["depth", "weights", "firsts", "number", "later", "many", "found", "powers", "row"]
theorem sc_state_at : FnScope N_state_at ["depth", "weights", "firsts", "number"] (defScope s_state_at) := ⟨rfl, rfl, rfl, by decide +kernel, rfl, by decide +kernel, by decide +kernel⟩
abbrev s_head_of : Stmt := top 37
abbrev N_head_of : List Str := ["depth", "weights", "firsts", "length", "low", "high", "middle"]
theorem sc_head_of : FnScope N_head_of ["depth", "weights", "firsts", "length"] (defScope s_head_of) := ⟨rfl, rfl, rfl, by decide +kernel, rfl, by decide +kernel, by decide +kernel⟩
abbrev s_period_of : Stmt := top 38
abbrev N_period_of : List Str := ["depth", "weights", "firsts", "factor", "far", "length"]
theorem sc_period_of : FnScope N_period_of ["depth", "weights", "firsts"] (defScope s_period_of) := ⟨rfl, rfl, rfl, by decide +kernel, rfl, by decide +kernel, by decide +kernel⟩
abbrev s_last_alone : Stmt := top 39
abbrev N_last_alone : List Str := ["weights"]
theorem sc_last_alone : FnScope N_last_alone ["weights"] (defScope s_last_alone) := ⟨rfl, rfl, rfl, by decide +kernel, rfl, by decide +kernel, by decide +kernel⟩
abbrev s_longest_period : Stmt := top 40
abbrev N_longest_period : List Str := ["depth", "weights"]
theorem sc_longest_period : FnScope N_longest_period ["depth", "weights"] (defScope s_longest_period) := ⟨rfl, rfl, rfl, by decide +kernel, rfl, by decide +kernel, by decide +kernel⟩
abbrev s_returning : Stmt := top 41
abbrev N_returning : List Str := ["depth", "weights", "number", "powers", "spot", "size", "many", "rows", "place", "share"]
theorem sc_returning : FnScope N_returning ["depth", "weights", "number"] (defScope s_returning) := ⟨rfl, rfl, rfl, by decide +kernel, rfl, by decide +kernel, by decide +kernel⟩
abbrev s_law_hash : Stmt := top 43
abbrev N_law_hash : List Str := ["_law_seed", "_law_index", "_law_mixed"]
theorem sc_law_hash : FnScope N_law_hash ["_law_seed", "_law_index"] (defScope s_law_hash) := ⟨rfl, rfl, rfl, by decide +kernel, rfl, by decide +kernel, by decide +kernel⟩
abbrev s_law_generator : Stmt := top 44
abbrev N_law_generator : List Str := ["_law_script", "_law_index", "_law_seed"]
theorem sc_law_generator : FnScope N_law_generator ["_law_script", "_law_index"] (defScope s_law_generator) := ⟨rfl, rfl, rfl, by decide +kernel, rfl, by decide +kernel, by decide +kernel⟩
abbrev s_law_random : Stmt := top 45
abbrev N_law_random : List Str := ["_law_generator_here", "_law_bound", "_law_drawn", "_law_turn"]
theorem sc_law_random : FnScope N_law_random ["_law_generator_here", "_law_bound"] (defScope s_law_random) := ⟨rfl, rfl, rfl, by decide +kernel, rfl, by decide +kernel, by decide +kernel⟩
abbrev s_law_weights : Stmt := top 46
abbrev N_law_weights : List Str := ["_law_generator_here", "_law_many", "_law_found", "_law_turn", "_law_small_here", "_law_great"]
theorem sc_law_weights : FnScope N_law_weights ["_law_generator_here", "_law_many"] (defScope s_law_weights) := ⟨rfl, rfl, rfl, by decide +kernel, rfl, by decide +kernel, by decide +kernel⟩
abbrev s_law_sum : Stmt := top 47
abbrev N_law_sum : List Str := ["_law_weights_here", "_law_row", "_law_spot", "_law_back"]
theorem sc_law_sum : FnScope N_law_sum ["_law_weights_here", "_law_row", "_law_spot"] (defScope s_law_sum) := ⟨rfl, rfl, rfl, by decide +kernel, rfl, by decide +kernel, by decide +kernel⟩
abbrev s_law_gone : Stmt := top 48
abbrev N_law_gone : List Str := ["_law_depth", "_law_weights_here", "_law_firsts", "_law_many", "_law_row", "_law_half"]
theorem sc_law_gone : FnScope N_law_gone ["_law_depth", "_law_weights_here", "_law_firsts", "_law_many"] (defScope s_law_gone) := ⟨rfl, rfl, rfl, by decide +kernel, rfl, by decide +kernel, by decide +kernel⟩
abbrev s_law_small : Stmt := top 49
abbrev N_law_small : List Str := ["_law_generator_here", "_law_many", "_law_turn"]
theorem sc_law_small : FnScope N_law_small ["_law_generator_here", "_law_many"] (defScope s_law_small) := ⟨rfl, rfl, rfl, by decide +kernel, rfl, by decide +kernel, by decide +kernel⟩
abbrev s_law_lists : Stmt := top 50
abbrev N_law_lists : List Str := ["_law_depth", "_law_many", "_law_found", "_law_turn", "_law_longer", "_law_one", "_law_sample"]
theorem sc_law_lists : FnScope N_law_lists ["_law_depth", "_law_many"] (defScope s_law_lists) := ⟨rfl, rfl, rfl, by decide +kernel, rfl, by decide +kernel, by decide +kernel⟩
abbrev s_law_count : Stmt := top 51
abbrev N_law_count : List Str := ["_law_depth", "_law_weights_here", "_law_number", "_law_firsts", "_law_many", "_law_found"]
theorem sc_law_count : FnScope N_law_count ["_law_depth", "_law_weights_here", "_law_number"] (defScope s_law_count) := ⟨rfl, rfl, rfl, by decide +kernel, rfl, by decide +kernel, by decide +kernel⟩
abbrev s_law_small_good : Stmt := top 52
abbrev N_law_small_good : List Str := ["_law_generator_here", "_law_depth", "_law_many", "_law_weights_here", "_law_number", "_law_given"]
theorem sc_law_small_good : FnScope N_law_small_good ["_law_generator_here"] (defScope s_law_small_good) := ⟨rfl, rfl, rfl, by decide +kernel, rfl, by decide +kernel, by decide +kernel⟩
abbrev s_law_great_good : Stmt := top 53
abbrev N_law_great_good : List Str := ["_law_generator_here", "_law_whole", "_law_depth", "_law_weights_here", "_law_number", "_law_times", "_law_less", "_law_more", "_law_spot"]
theorem sc_law_great_good : FnScope N_law_great_good ["_law_generator_here"] (defScope s_law_great_good) := ⟨rfl, rfl, rfl, by decide +kernel, rfl, by decide +kernel, by decide +kernel⟩
abbrev s_law_caught : Stmt := top 54
abbrev N_law_caught : List Str := ["_law_given", "_law_error", "e", "_law_kinds"]
theorem sc_law_caught : FnScope N_law_caught ["_law_given"] (defScope s_law_caught) := ⟨rfl, rfl, rfl, by decide +kernel, rfl, by decide +kernel, by decide +kernel⟩
abbrev s_law_refused : Stmt := top 55
abbrev N_law_refused : List Str := ["_law_bad", "_law_bads"]
theorem sc_law_refused : FnScope N_law_refused [] (defScope s_law_refused) := ⟨rfl, rfl, rfl, by decide +kernel, rfl, by decide +kernel, by decide +kernel⟩
abbrev s_law : Stmt := top 56
abbrev N_law : List Str := ["_law_script", "_law_generator_here", "_law_turn", "_law_told"]
theorem sc_law : FnScope N_law ["_law_script"] (defScope s_law) := ⟨rfl, rfl, rfl, by decide +kernel, rfl, by decide +kernel, by decide +kernel⟩
abbrev s_Shape___init__ : Stmt := inClass (top 20) 0
abbrev N_Shape___init__ : List Str := ["self", "rows", "width", "depth", "at", "row"]
theorem sc_Shape___init__ : FnScope N_Shape___init__ ["self", "rows", "width", "depth"] (defScope s_Shape___init__) := ⟨rfl, rfl, rfl, by decide +kernel, rfl, by decide +kernel, by decide +kernel⟩
abbrev s_Shape_lessened : Stmt := inClass (top 20) 1
abbrev N_Shape_lessened : List Str := ["self", "row", "number"]
theorem sc_Shape_lessened : FnScope N_Shape_lessened ["self", "row"] (defScope s_Shape_lessened) := ⟨rfl, rfl, rfl, by decide +kernel, rfl, by decide +kernel, by decide +kernel⟩
abbrev s_Shape_best : Stmt := inClass (top 20) 2
abbrev N_Shape_best : List Str := ["self", "at", "found", "place", "spot"]
theorem sc_Shape_best : FnScope N_Shape_best ["self", "at"] (defScope s_Shape_best) := ⟨rfl, rfl, rfl, by decide +kernel, rfl, by decide +kernel, by decide +kernel⟩
abbrev s_Shape_clear : Stmt := inClass (top 20) 3
abbrev N_Shape_clear : List Str := ["self", "at", "rows", "odd", "lower", "later", "power", "place", "spot", "number"]
theorem sc_Shape_clear : FnScope N_Shape_clear ["self", "at"] (defScope s_Shape_clear) := ⟨rfl, rfl, rfl, by decide +kernel, rfl, by decide +kernel, by decide +kernel⟩
abbrev s_Shape_take_row : Stmt := inClass (top 20) 4
abbrev N_Shape_take_row : List Str := ["self", "lower", "at", "factor", "rows", "k", "number"]
theorem sc_Shape_take_row : FnScope N_Shape_take_row ["self", "lower", "at", "factor"] (defScope s_Shape_take_row) := ⟨rfl, rfl, rfl, by decide +kernel, rfl, by decide +kernel, by decide +kernel⟩
abbrev s_Shape_take_column : Stmt := inClass (top 20) 5
abbrev N_Shape_take_column : List Str := ["self", "later", "at", "factor", "rows", "row"]
theorem sc_Shape_take_column : FnScope N_Shape_take_column ["self", "later", "at", "factor"] (defScope s_Shape_take_column) := ⟨rfl, rfl, rfl, by decide +kernel, rfl, by decide +kernel, by decide +kernel⟩
abbrev s_Shape_led : Stmt := inClass (top 20) 6
abbrev N_Shape_led : List Str := ["self", "column"]
theorem sc_Shape_led : FnScope N_Shape_led ["self", "column"] (defScope s_Shape_led) := ⟨rfl, rfl, rfl, by decide +kernel, rfl, by decide +kernel, by decide +kernel⟩
abbrev s_Shape_power_at : Stmt := inClass (top 20) 7
abbrev N_Shape_power_at : List Str := ["self", "spot"]
theorem sc_Shape_power_at : FnScope N_Shape_power_at ["self", "spot"] (defScope s_Shape_power_at) := ⟨rfl, rfl, rfl, by decide +kernel, rfl, by decide +kernel, by decide +kernel⟩
abbrev s_Shape_failing : Stmt := inClass (top 20) 8
abbrev N_Shape_failing : List Str := ["self", "column"]
theorem sc_Shape_failing : FnScope N_Shape_failing ["self", "column"] (defScope s_Shape_failing) := ⟨rfl, rfl, rfl, by decide +kernel, rfl, by decide +kernel, by decide +kernel⟩
abbrev s_Shape_solution : Stmt := inClass (top 20) 9
abbrev N_Shape_solution : List Str := ["self", "column"]
theorem sc_Shape_solution : FnScope N_Shape_solution ["self", "column"] (defScope s_Shape_solution) := ⟨rfl, rfl, rfl, by decide +kernel, rfl, by decide +kernel, by decide +kernel⟩
abbrev s_Shape_barring : Stmt := inClass (top 20) 10
abbrev N_Shape_barring : List Str := ["self", "column"]
theorem sc_Shape_barring : FnScope N_Shape_barring ["self", "column"] (defScope s_Shape_barring) := ⟨rfl, rfl, rfl, by decide +kernel, rfl, by decide +kernel, by decide +kernel⟩
abbrev s_Shape_kernel_size : Stmt := inClass (top 20) 11
abbrev N_Shape_kernel_size : List Str := ["self"]
theorem sc_Shape_kernel_size : FnScope N_Shape_kernel_size ["self"] (defScope s_Shape_kernel_size) := ⟨rfl, rfl, rfl, by decide +kernel, rfl, by decide +kernel, by decide +kernel⟩
abbrev s_Shape_column_of : Stmt := inClass (top 20) 12
abbrev N_Shape_column_of : List Str := ["self", "spot"]
theorem sc_Shape_column_of : FnScope N_Shape_column_of ["self", "spot"] (defScope s_Shape_column_of) := ⟨rfl, rfl, rfl, by decide +kernel, rfl, by decide +kernel, by decide +kernel⟩
abbrev s_Shape_reaches : Stmt := inClass (top 20) 13
abbrev N_Shape_reaches : List Str := ["self", "row"]
theorem sc_Shape_reaches : FnScope N_Shape_reaches ["self", "row"] (defScope s_Shape_reaches) := ⟨rfl, rfl, rfl, by decide +kernel, rfl, by decide +kernel, by decide +kernel⟩
abbrev s_Shape_power_of : Stmt := inClass (top 20) 14
abbrev N_Shape_power_of : List Str := ["self", "row"]
theorem sc_Shape_power_of : FnScope N_Shape_power_of ["self", "row"] (defScope s_Shape_power_of) := ⟨rfl, rfl, rfl, by decide +kernel, rfl, by decide +kernel, by decide +kernel⟩
abbrev s_Shape_mover : Stmt := inClass (top 20) 15
abbrev N_Shape_mover : List Str := ["self", "row"]
theorem sc_Shape_mover : FnScope N_Shape_mover ["self", "row"] (defScope s_Shape_mover) := ⟨rfl, rfl, rfl, by decide +kernel, rfl, by decide +kernel, by decide +kernel⟩
abbrev s_Shape_shares : Stmt := inClass (top 20) 16
abbrev N_Shape_shares : List Str := ["self", "row"]
theorem sc_Shape_shares : FnScope N_Shape_shares ["self", "row"] (defScope s_Shape_shares) := ⟨rfl, rfl, rfl, by decide +kernel, rfl, by decide +kernel, by decide +kernel⟩
abbrev s_InvalidNumber___init__ : Stmt := inClass (top 3) 0
theorem nsc_InvalidNumber : NdefX.NScope ["self", "value", "__class__"] ["self", "value"] ["__class__"] (defScope s_InvalidNumber___init__) := NdefX.nscope_by (by decide +kernel)
theorem sb_InvalidNumber : Sup.SupBody s_InvalidNumber___init__ := ⟨_, _, _, _, _, _, _, _, _, _, rfl, by decide +kernel, fun env => ⟨_, rfl⟩⟩
abbrev s_InvalidDepth___init__ : Stmt := inClass (top 4) 0
theorem nsc_InvalidDepth : NdefX.NScope ["self", "value", "__class__"] ["self", "value"] ["__class__"] (defScope s_InvalidDepth___init__) := NdefX.nscope_by (by decide +kernel)
theorem sb_InvalidDepth : Sup.SupBody s_InvalidDepth___init__ := ⟨_, _, _, _, _, _, _, _, _, _, rfl, by decide +kernel, fun env => ⟨_, rfl⟩⟩
abbrev s_InvalidWeights___init__ : Stmt := inClass (top 5) 0
theorem nsc_InvalidWeights : NdefX.NScope ["self", "value", "__class__"] ["self", "value"] ["__class__"] (defScope s_InvalidWeights___init__) := NdefX.nscope_by (by decide +kernel)
theorem sb_InvalidWeights : Sup.SupBody s_InvalidWeights___init__ := ⟨_, _, _, _, _, _, _, _, _, _, rfl, by decide +kernel, fun env => ⟨_, rfl⟩⟩
def fileS : Str := PySem.Challenge.pw_wholesound_k23_firsts_that_return.main.file
/-- what the top has left -/
structure Top (K : PySem.W.Frag) (mg : Str → Option Value) where
  C_Shape : Addr
  gc_Shape : mg "Shape" = some (.ref C_Shape)
  cl_Shape : Cls K C_Shape
  ic_Shape : C8.InsC K C_Shape
  na_Shape_size : NoAttr K C_Shape "size"
  na_Shape_depth : NoAttr K C_Shape "depth"
  na_Shape_wide : NoAttr K C_Shape "wide"
  na_Shape_grid : NoAttr K C_Shape "grid"
  na_Shape_left : NoAttr K C_Shape "left"
  na_Shape_right : NoAttr K C_Shape "right"
  na_Shape_powers : NoAttr K C_Shape "powers"
  f_wall : Addr
  fd_wall : FuncData
  F_wall : FunD K "_wall" "_wall" (defArgs s_wall) (defBody s_wall) (defScope s_wall) [] [] f_wall fd_wall
  b_wall : Binds K fd_wall ["k"] []
  g_wall : mg "_wall" = some (.ref f_wall)
  f_is_whole : Addr
  fd_is_whole : FuncData
  F_is_whole : FunD K "is_whole" "is_whole" (defArgs s_is_whole) (defBody s_is_whole) (defScope s_is_whole) [] [] f_is_whole fd_is_whole
  b_is_whole : Binds K fd_is_whole ["value"] []
  g_is_whole : mg "is_whole" = some (.ref f_is_whole)
  f_is_between : Addr
  fd_is_between : FuncData
  F_is_between : FunD K "is_between" "is_between" (defArgs s_is_between) (defBody s_is_between) (defScope s_is_between) [] [] f_is_between fd_is_between
  b_is_between : Binds K fd_is_between ["value", "low", "high"] []
  g_is_between : mg "is_between" = some (.ref f_is_between)
  f_are_wholes : Addr
  fd_are_wholes : FuncData
  F_are_wholes : FunD K "are_wholes" "are_wholes" (defArgs s_are_wholes) (defBody s_are_wholes) (defScope s_are_wholes) [] [] f_are_wholes fd_are_wholes
  b_are_wholes : Binds K fd_are_wholes ["value"] []
  g_are_wholes : mg "are_wholes" = some (.ref f_are_wholes)
  f_check_depth : Addr
  fd_check_depth : FuncData
  F_check_depth : FunD K "check_depth" "check_depth" (defArgs s_check_depth) (defBody s_check_depth) (defScope s_check_depth) [.int 24] [] f_check_depth fd_check_depth
  b_check_depth : Binds K fd_check_depth ["depth", "most"] []
  g_check_depth : mg "check_depth" = some (.ref f_check_depth)
  e0_check_depth : List Value
  v0_check_depth : Vals [.int 24] e0_check_depth
  b0_check_depth : Binds K fd_check_depth ["depth", "most"] e0_check_depth
  f_check_number : Addr
  fd_check_number : FuncData
  F_check_number : FunD K "check_number" "check_number" (defArgs s_check_number) (defBody s_check_number) (defScope s_check_number) [] [] f_check_number fd_check_number
  b_check_number : Binds K fd_check_number ["number", "low", "high"] []
  g_check_number : mg "check_number" = some (.ref f_check_number)
  f_unit_rows : Addr
  fd_unit_rows : FuncData
  F_unit_rows : FunD K "unit_rows" "unit_rows" (defArgs s_unit_rows) (defBody s_unit_rows) (defScope s_unit_rows) [] [] f_unit_rows fd_unit_rows
  b_unit_rows : Binds K fd_unit_rows ["size"] []
  g_unit_rows : mg "unit_rows" = some (.ref f_unit_rows)
  f_twos_of : Addr
  fd_twos_of : FuncData
  F_twos_of : FunD K "twos_of" "twos_of" (defArgs s_twos_of) (defBody s_twos_of) (defScope s_twos_of) [] [] f_twos_of fd_twos_of
  b_twos_of : Binds K fd_twos_of ["number", "most"] []
  g_twos_of : mg "twos_of" = some (.ref f_twos_of)
  f_inverse : Addr
  fd_inverse : FuncData
  F_inverse : FunD K "inverse" "inverse" (defArgs s_inverse) (defBody s_inverse) (defScope s_inverse) [] [] f_inverse fd_inverse
  b_inverse : Binds K fd_inverse ["number", "size"] []
  g_inverse : mg "inverse" = some (.ref f_inverse)
  f_dotted : Addr
  fd_dotted : FuncData
  F_dotted : FunD K "dotted" "dotted" (defArgs s_dotted) (defBody s_dotted) (defScope s_dotted) [] [] f_dotted fd_dotted
  b_dotted : Binds K fd_dotted ["one", "other"] []
  g_dotted : mg "dotted" = some (.ref f_dotted)
  f_exchange_columns : Addr
  fd_exchange_columns : FuncData
  F_exchange_columns : FunD K "exchange_columns" "exchange_columns" (defArgs s_exchange_columns) (defBody s_exchange_columns) (defScope s_exchange_columns) [] [] f_exchange_columns fd_exchange_columns
  b_exchange_columns : Binds K fd_exchange_columns ["rows", "one", "other"] []
  g_exchange_columns : mg "exchange_columns" = some (.ref f_exchange_columns)
  f_take_columns : Addr
  fd_take_columns : FuncData
  F_take_columns : FunD K "take_columns" "take_columns" (defArgs s_take_columns) (defBody s_take_columns) (defScope s_take_columns) [] [] f_take_columns fd_take_columns
  b_take_columns : Binds K fd_take_columns ["rows", "spot", "place", "factor"] []
  g_take_columns : mg "take_columns" = some (.ref f_take_columns)
  f_reduced : Addr
  fd_reduced : FuncData
  F_reduced : FunD K "reduced" "reduced" (defArgs s_reduced) (defBody s_reduced) (defScope s_reduced) [] [] f_reduced fd_reduced
  b_reduced : Binds K fd_reduced ["weights", "powers", "size"] []
  g_reduced : mg "reduced" = some (.ref f_reduced)
  f_multiplied : Addr
  fd_multiplied : FuncData
  F_multiplied : FunD K "multiplied" "multiplied" (defArgs s_multiplied) (defBody s_multiplied) (defScope s_multiplied) [] [] f_multiplied fd_multiplied
  b_multiplied : Binds K fd_multiplied ["one", "other"] []
  g_multiplied : mg "multiplied" = some (.ref f_multiplied)
  f_moved_by : Addr
  fd_moved_by : FuncData
  F_moved_by : FunD K "moved_by" "moved_by" (defArgs s_moved_by) (defBody s_moved_by) (defScope s_moved_by) [] [] f_moved_by fd_moved_by
  b_moved_by : Binds K fd_moved_by ["weights", "number", "size"] []
  g_moved_by : mg "moved_by" = some (.ref f_moved_by)
  f_turn_of : Addr
  fd_turn_of : FuncData
  F_turn_of : FunD K "turn_of" "turn_of" (defArgs s_turn_of) (defBody s_turn_of) (defScope s_turn_of) [] [] f_turn_of fd_turn_of
  b_turn_of : Binds K fd_turn_of ["weights"] []
  g_turn_of : mg "turn_of" = some (.ref f_turn_of)
  f_factors_of : Addr
  fd_factors_of : FuncData
  F_factors_of : FunD K "factors_of" "factors_of" (defArgs s_factors_of) (defBody s_factors_of) (defScope s_factors_of) [] [] f_factors_of fd_factors_of
  b_factors_of : Binds K fd_factors_of ["number"] []
  g_factors_of : mg "factors_of" = some (.ref f_factors_of)
  f_wrapped : Addr
  fd_wrapped : FuncData
  F_wrapped : FunD K "wrapped" "wrapped" (defArgs s_wrapped) (defBody s_wrapped) (defScope s_wrapped) [] [] f_wrapped fd_wrapped
  b_wrapped : Binds K fd_wrapped ["number", "depth"] []
  g_wrapped : mg "wrapped" = some (.ref f_wrapped)
  f_check_rule : Addr
  fd_check_rule : FuncData
  F_check_rule : FunD K "check_rule" "check_rule" (defArgs s_check_rule) (defBody s_check_rule) (defScope s_check_rule) [] [] f_check_rule fd_check_rule
  b_check_rule : Binds K fd_check_rule ["weights"] []
  g_check_rule : mg "check_rule" = some (.ref f_check_rule)
  f_told_at : Addr
  fd_told_at : FuncData
  F_told_at : FunD K "told_at" "told_at" (defArgs s_told_at) (defBody s_told_at) (defScope s_told_at) [] [] f_told_at fd_told_at
  b_told_at : Binds K fd_told_at ["weights", "row", "spot"] []
  g_told_at : mg "told_at" = some (.ref f_told_at)
  f_gone_on : Addr
  fd_gone_on : FuncData
  F_gone_on : FunD K "gone_on" "gone_on" (defArgs s_gone_on) (defBody s_gone_on) (defScope s_gone_on) [] [] f_gone_on fd_gone_on
  b_gone_on : Binds K fd_gone_on ["depth", "weights", "firsts", "many"] []
  g_gone_on : mg "gone_on" = some (.ref f_gone_on)
  f_state_at : Addr
  fd_state_at : FuncData
  F_state_at : FunD K "state_at" "state_at" (defArgs s_state_at) (defBody s_state_at) (defScope s_state_at) [] [] f_state_at fd_state_at
  b_state_at : Binds K fd_state_at ["depth", "weights", "firsts", "number"] []
  g_state_at : mg "state_at" = some (.ref f_state_at)
  f_head_of : Addr
  fd_head_of : FuncData
  F_head_of : FunD K "head_of" "head_of" (defArgs s_head_of) (defBody s_head_of) (defScope s_head_of) [] [] f_head_of fd_head_of
  b_head_of : Binds K fd_head_of ["depth", "weights", "firsts", "length"] []
  g_head_of : mg "head_of" = some (.ref f_head_of)
  f_period_of : Addr
  fd_period_of : FuncData
  F_period_of : FunD K "period_of" "period_of" (defArgs s_period_of) (defBody s_period_of) (defScope s_period_of) [] [] f_period_of fd_period_of
  b_period_of : Binds K fd_period_of ["depth", "weights", "firsts"] []
  g_period_of : mg "period_of" = some (.ref f_period_of)
  f_last_alone : Addr
  fd_last_alone : FuncData
  F_last_alone : FunD K "last_alone" "last_alone" (defArgs s_last_alone) (defBody s_last_alone) (defScope s_last_alone) [] [] f_last_alone fd_last_alone
  b_last_alone : Binds K fd_last_alone ["weights"] []
  g_last_alone : mg "last_alone" = some (.ref f_last_alone)
  f_longest_period : Addr
  fd_longest_period : FuncData
  F_longest_period : FunD K "longest_period" "longest_period" (defArgs s_longest_period) (defBody s_longest_period) (defScope s_longest_period) [] [] f_longest_period fd_longest_period
  b_longest_period : Binds K fd_longest_period ["depth", "weights"] []
  g_longest_period : mg "longest_period" = some (.ref f_longest_period)
  f_returning : Addr
  fd_returning : FuncData
  F_returning : FunD K "returning" "returning" (defArgs s_returning) (defBody s_returning) (defScope s_returning) [] [] f_returning fd_returning
  b_returning : Binds K fd_returning ["depth", "weights", "number"] []
  g_returning : mg "returning" = some (.ref f_returning)
  f_law_hash : Addr
  fd_law_hash : FuncData
  F_law_hash : FunD K "_law_hash" "_law_hash" (defArgs s_law_hash) (defBody s_law_hash) (defScope s_law_hash) [] [] f_law_hash fd_law_hash
  b_law_hash : Binds K fd_law_hash ["_law_seed", "_law_index"] []
  g_law_hash : mg "_law_hash" = some (.ref f_law_hash)
  f_law_generator : Addr
  fd_law_generator : FuncData
  F_law_generator : FunD K "_law_generator" "_law_generator" (defArgs s_law_generator) (defBody s_law_generator) (defScope s_law_generator) [] [] f_law_generator fd_law_generator
  b_law_generator : Binds K fd_law_generator ["_law_script", "_law_index"] []
  g_law_generator : mg "_law_generator" = some (.ref f_law_generator)
  f_law_random : Addr
  fd_law_random : FuncData
  F_law_random : FunD K "_law_random" "_law_random" (defArgs s_law_random) (defBody s_law_random) (defScope s_law_random) [] [] f_law_random fd_law_random
  b_law_random : Binds K fd_law_random ["_law_generator_here", "_law_bound"] []
  g_law_random : mg "_law_random" = some (.ref f_law_random)
  f_law_weights : Addr
  fd_law_weights : FuncData
  F_law_weights : FunD K "_law_weights" "_law_weights" (defArgs s_law_weights) (defBody s_law_weights) (defScope s_law_weights) [] [] f_law_weights fd_law_weights
  b_law_weights : Binds K fd_law_weights ["_law_generator_here", "_law_many"] []
  g_law_weights : mg "_law_weights" = some (.ref f_law_weights)
  f_law_sum : Addr
  fd_law_sum : FuncData
  F_law_sum : FunD K "_law_sum" "_law_sum" (defArgs s_law_sum) (defBody s_law_sum) (defScope s_law_sum) [] [] f_law_sum fd_law_sum
  b_law_sum : Binds K fd_law_sum ["_law_weights_here", "_law_row", "_law_spot"] []
  g_law_sum : mg "_law_sum" = some (.ref f_law_sum)
  f_law_gone : Addr
  fd_law_gone : FuncData
  F_law_gone : FunD K "_law_gone" "_law_gone" (defArgs s_law_gone) (defBody s_law_gone) (defScope s_law_gone) [] [] f_law_gone fd_law_gone
  b_law_gone : Binds K fd_law_gone ["_law_depth", "_law_weights_here", "_law_firsts", "_law_many"] []
  g_law_gone : mg "_law_gone" = some (.ref f_law_gone)
  f_law_small : Addr
  fd_law_small : FuncData
  F_law_small : FunD K "_law_small" "_law_small" (defArgs s_law_small) (defBody s_law_small) (defScope s_law_small) [] [] f_law_small fd_law_small
  b_law_small : Binds K fd_law_small ["_law_generator_here", "_law_many"] []
  g_law_small : mg "_law_small" = some (.ref f_law_small)
  f_law_lists : Addr
  fd_law_lists : FuncData
  F_law_lists : FunD K "_law_lists" "_law_lists" (defArgs s_law_lists) (defBody s_law_lists) (defScope s_law_lists) [] [] f_law_lists fd_law_lists
  b_law_lists : Binds K fd_law_lists ["_law_depth", "_law_many"] []
  g_law_lists : mg "_law_lists" = some (.ref f_law_lists)
  f_law_count : Addr
  fd_law_count : FuncData
  F_law_count : FunD K "_law_count" "_law_count" (defArgs s_law_count) (defBody s_law_count) (defScope s_law_count) [] [] f_law_count fd_law_count
  b_law_count : Binds K fd_law_count ["_law_depth", "_law_weights_here", "_law_number"] []
  g_law_count : mg "_law_count" = some (.ref f_law_count)
  f_law_small_good : Addr
  fd_law_small_good : FuncData
  F_law_small_good : FunD K "_law_small_good" "_law_small_good" (defArgs s_law_small_good) (defBody s_law_small_good) (defScope s_law_small_good) [] [] f_law_small_good fd_law_small_good
  b_law_small_good : Binds K fd_law_small_good ["_law_generator_here"] []
  g_law_small_good : mg "_law_small_good" = some (.ref f_law_small_good)
  f_law_great_good : Addr
  fd_law_great_good : FuncData
  F_law_great_good : FunD K "_law_great_good" "_law_great_good" (defArgs s_law_great_good) (defBody s_law_great_good) (defScope s_law_great_good) [] [] f_law_great_good fd_law_great_good
  b_law_great_good : Binds K fd_law_great_good ["_law_generator_here"] []
  g_law_great_good : mg "_law_great_good" = some (.ref f_law_great_good)
  f_law_caught : Addr
  fd_law_caught : FuncData
  F_law_caught : FunD K "_law_caught" "_law_caught" (defArgs s_law_caught) (defBody s_law_caught) (defScope s_law_caught) [] [] f_law_caught fd_law_caught
  b_law_caught : Binds K fd_law_caught ["_law_given"] []
  g_law_caught : mg "_law_caught" = some (.ref f_law_caught)
  f_law_refused : Addr
  fd_law_refused : FuncData
  F_law_refused : FunD K "_law_refused" "_law_refused" (defArgs s_law_refused) (defBody s_law_refused) (defScope s_law_refused) [] [] f_law_refused fd_law_refused
  b_law_refused : Binds K fd_law_refused [] []
  g_law_refused : mg "_law_refused" = some (.ref f_law_refused)
  f_law : Addr
  fd_law : FuncData
  F_law : FunD K "law" "law" (defArgs s_law) (defBody s_law) (defScope s_law) [] [] f_law fd_law
  b_law : Binds K fd_law ["_law_script"] []
  g_law : mg "law" = some (.ref f_law)
  f_Shape___init__ : Addr
  fd_Shape___init__ : FuncData
  F_Shape___init__ : FunD K "__init__" "Shape.__init__" (defArgs s_Shape___init__) (defBody s_Shape___init__) (defScope s_Shape___init__) [] [] f_Shape___init__ fd_Shape___init__
  b_Shape___init__ : Binds K fd_Shape___init__ ["self", "rows", "width", "depth"] []
  me_Shape___init__ : Meth K C_Shape "__init__" f_Shape___init__
  mk_Shape : Mk K C_Shape f_Shape___init__
  f_Shape_lessened : Addr
  fd_Shape_lessened : FuncData
  F_Shape_lessened : FunD K "lessened" "Shape.lessened" (defArgs s_Shape_lessened) (defBody s_Shape_lessened) (defScope s_Shape_lessened) [] [] f_Shape_lessened fd_Shape_lessened
  b_Shape_lessened : Binds K fd_Shape_lessened ["self", "row"] []
  me_Shape_lessened : Meth K C_Shape "lessened" f_Shape_lessened
  f_Shape_best : Addr
  fd_Shape_best : FuncData
  F_Shape_best : FunD K "best" "Shape.best" (defArgs s_Shape_best) (defBody s_Shape_best) (defScope s_Shape_best) [] [] f_Shape_best fd_Shape_best
  b_Shape_best : Binds K fd_Shape_best ["self", "at"] []
  me_Shape_best : Meth K C_Shape "best" f_Shape_best
  f_Shape_clear : Addr
  fd_Shape_clear : FuncData
  F_Shape_clear : FunD K "clear" "Shape.clear" (defArgs s_Shape_clear) (defBody s_Shape_clear) (defScope s_Shape_clear) [] [] f_Shape_clear fd_Shape_clear
  b_Shape_clear : Binds K fd_Shape_clear ["self", "at"] []
  me_Shape_clear : Meth K C_Shape "clear" f_Shape_clear
  f_Shape_take_row : Addr
  fd_Shape_take_row : FuncData
  F_Shape_take_row : FunD K "take_row" "Shape.take_row" (defArgs s_Shape_take_row) (defBody s_Shape_take_row) (defScope s_Shape_take_row) [] [] f_Shape_take_row fd_Shape_take_row
  b_Shape_take_row : Binds K fd_Shape_take_row ["self", "lower", "at", "factor"] []
  me_Shape_take_row : Meth K C_Shape "take_row" f_Shape_take_row
  f_Shape_take_column : Addr
  fd_Shape_take_column : FuncData
  F_Shape_take_column : FunD K "take_column" "Shape.take_column" (defArgs s_Shape_take_column) (defBody s_Shape_take_column) (defScope s_Shape_take_column) [] [] f_Shape_take_column fd_Shape_take_column
  b_Shape_take_column : Binds K fd_Shape_take_column ["self", "later", "at", "factor"] []
  me_Shape_take_column : Meth K C_Shape "take_column" f_Shape_take_column
  f_Shape_led : Addr
  fd_Shape_led : FuncData
  F_Shape_led : FunD K "led" "Shape.led" (defArgs s_Shape_led) (defBody s_Shape_led) (defScope s_Shape_led) [] [] f_Shape_led fd_Shape_led
  b_Shape_led : Binds K fd_Shape_led ["self", "column"] []
  me_Shape_led : Meth K C_Shape "led" f_Shape_led
  f_Shape_power_at : Addr
  fd_Shape_power_at : FuncData
  F_Shape_power_at : FunD K "power_at" "Shape.power_at" (defArgs s_Shape_power_at) (defBody s_Shape_power_at) (defScope s_Shape_power_at) [] [] f_Shape_power_at fd_Shape_power_at
  b_Shape_power_at : Binds K fd_Shape_power_at ["self", "spot"] []
  me_Shape_power_at : Meth K C_Shape "power_at" f_Shape_power_at
  f_Shape_failing : Addr
  fd_Shape_failing : FuncData
  F_Shape_failing : FunD K "failing" "Shape.failing" (defArgs s_Shape_failing) (defBody s_Shape_failing) (defScope s_Shape_failing) [] [] f_Shape_failing fd_Shape_failing
  b_Shape_failing : Binds K fd_Shape_failing ["self", "column"] []
  me_Shape_failing : Meth K C_Shape "failing" f_Shape_failing
  f_Shape_solution : Addr
  fd_Shape_solution : FuncData
  F_Shape_solution : FunD K "solution" "Shape.solution" (defArgs s_Shape_solution) (defBody s_Shape_solution) (defScope s_Shape_solution) [] [] f_Shape_solution fd_Shape_solution
  b_Shape_solution : Binds K fd_Shape_solution ["self", "column"] []
  me_Shape_solution : Meth K C_Shape "solution" f_Shape_solution
  f_Shape_barring : Addr
  fd_Shape_barring : FuncData
  F_Shape_barring : FunD K "barring" "Shape.barring" (defArgs s_Shape_barring) (defBody s_Shape_barring) (defScope s_Shape_barring) [] [] f_Shape_barring fd_Shape_barring
  b_Shape_barring : Binds K fd_Shape_barring ["self", "column"] []
  me_Shape_barring : Meth K C_Shape "barring" f_Shape_barring
  f_Shape_kernel_size : Addr
  fd_Shape_kernel_size : FuncData
  F_Shape_kernel_size : FunD K "kernel_size" "Shape.kernel_size" (defArgs s_Shape_kernel_size) (defBody s_Shape_kernel_size) (defScope s_Shape_kernel_size) [] [] f_Shape_kernel_size fd_Shape_kernel_size
  b_Shape_kernel_size : Binds K fd_Shape_kernel_size ["self"] []
  me_Shape_kernel_size : Meth K C_Shape "kernel_size" f_Shape_kernel_size
  f_Shape_column_of : Addr
  fd_Shape_column_of : FuncData
  F_Shape_column_of : FunD K "column_of" "Shape.column_of" (defArgs s_Shape_column_of) (defBody s_Shape_column_of) (defScope s_Shape_column_of) [] [] f_Shape_column_of fd_Shape_column_of
  b_Shape_column_of : Binds K fd_Shape_column_of ["self", "spot"] []
  me_Shape_column_of : Meth K C_Shape "column_of" f_Shape_column_of
  f_Shape_reaches : Addr
  fd_Shape_reaches : FuncData
  F_Shape_reaches : FunD K "reaches" "Shape.reaches" (defArgs s_Shape_reaches) (defBody s_Shape_reaches) (defScope s_Shape_reaches) [] [] f_Shape_reaches fd_Shape_reaches
  b_Shape_reaches : Binds K fd_Shape_reaches ["self", "row"] []
  me_Shape_reaches : Meth K C_Shape "reaches" f_Shape_reaches
  f_Shape_power_of : Addr
  fd_Shape_power_of : FuncData
  F_Shape_power_of : FunD K "power_of" "Shape.power_of" (defArgs s_Shape_power_of) (defBody s_Shape_power_of) (defScope s_Shape_power_of) [] [] f_Shape_power_of fd_Shape_power_of
  b_Shape_power_of : Binds K fd_Shape_power_of ["self", "row"] []
  me_Shape_power_of : Meth K C_Shape "power_of" f_Shape_power_of
  f_Shape_mover : Addr
  fd_Shape_mover : FuncData
  F_Shape_mover : FunD K "mover" "Shape.mover" (defArgs s_Shape_mover) (defBody s_Shape_mover) (defScope s_Shape_mover) [] [] f_Shape_mover fd_Shape_mover
  b_Shape_mover : Binds K fd_Shape_mover ["self", "row"] []
  me_Shape_mover : Meth K C_Shape "mover" f_Shape_mover
  f_Shape_shares : Addr
  fd_Shape_shares : FuncData
  F_Shape_shares : FunD K "shares" "Shape.shares" (defArgs s_Shape_shares) (defBody s_Shape_shares) (defScope s_Shape_shares) [] [] f_Shape_shares fd_Shape_shares
  b_Shape_shares : Binds K fd_Shape_shares ["self", "row"] []
  me_Shape_shares : Meth K C_Shape "shares" f_Shape_shares
  C_InvalidNumber : Addr
  gc_InvalidNumber : mg "InvalidNumber" = some (.ref C_InvalidNumber)
  fi_InvalidNumber : Addr
  fd_InvalidNumber : FuncData
  er_InvalidNumber : ErrC K fileS "InvalidNumber" s_InvalidNumber___init__ C_InvalidNumber fi_InvalidNumber fd_InvalidNumber
  C_InvalidDepth : Addr
  gc_InvalidDepth : mg "InvalidDepth" = some (.ref C_InvalidDepth)
  fi_InvalidDepth : Addr
  fd_InvalidDepth : FuncData
  er_InvalidDepth : ErrC K fileS "InvalidDepth" s_InvalidDepth___init__ C_InvalidDepth fi_InvalidDepth fd_InvalidDepth
  C_InvalidWeights : Addr
  gc_InvalidWeights : mg "InvalidWeights" = some (.ref C_InvalidWeights)
  fi_InvalidWeights : Addr
  fd_InvalidWeights : FuncData
  er_InvalidWeights : ErrC K fileS "InvalidWeights" s_InvalidWeights___init__ C_InvalidWeights fi_InvalidWeights fd_InvalidWeights
  C_SoundError : Addr
  gc_SoundError : mg "SoundError" = some (.ref C_SoundError)
  em_InvalidNumber_SoundError : PySem.W.exmOne K (.ref C_InvalidNumber) (.ref C_SoundError) = some true
  em_InvalidNumber_InvalidDepth : PySem.W.exmOne K (.ref C_InvalidNumber) (.ref C_InvalidDepth) = some false
  em_InvalidNumber_InvalidWeights : PySem.W.exmOne K (.ref C_InvalidNumber) (.ref C_InvalidWeights) = some false
  em_InvalidNumber_InvalidNumber : PySem.W.exmOne K (.ref C_InvalidNumber) (.ref C_InvalidNumber) = some true
  em_InvalidDepth_SoundError : PySem.W.exmOne K (.ref C_InvalidDepth) (.ref C_SoundError) = some true
  em_InvalidDepth_InvalidDepth : PySem.W.exmOne K (.ref C_InvalidDepth) (.ref C_InvalidDepth) = some true
  em_InvalidDepth_InvalidWeights : PySem.W.exmOne K (.ref C_InvalidDepth) (.ref C_InvalidWeights) = some false
  em_InvalidDepth_InvalidNumber : PySem.W.exmOne K (.ref C_InvalidDepth) (.ref C_InvalidNumber) = some false
  em_InvalidWeights_SoundError : PySem.W.exmOne K (.ref C_InvalidWeights) (.ref C_SoundError) = some true
  em_InvalidWeights_InvalidDepth : PySem.W.exmOne K (.ref C_InvalidWeights) (.ref C_InvalidDepth) = some false
  em_InvalidWeights_InvalidWeights : PySem.W.exmOne K (.ref C_InvalidWeights) (.ref C_InvalidWeights) = some true
  em_InvalidWeights_InvalidNumber : PySem.W.exmOne K (.ref C_InvalidWeights) (.ref C_InvalidNumber) = some false
  ki_InvalidNumber_SoundError : PySem.W.kitOne K (.ref C_InvalidNumber) (.ref C_SoundError) = some true
  ki_InvalidNumber_InvalidDepth : PySem.W.kitOne K (.ref C_InvalidNumber) (.ref C_InvalidDepth) = some false
  ki_InvalidNumber_InvalidWeights : PySem.W.kitOne K (.ref C_InvalidNumber) (.ref C_InvalidWeights) = some false
  ki_InvalidNumber_InvalidNumber : PySem.W.kitOne K (.ref C_InvalidNumber) (.ref C_InvalidNumber) = some true
  ki_InvalidDepth_SoundError : PySem.W.kitOne K (.ref C_InvalidDepth) (.ref C_SoundError) = some true
  ki_InvalidDepth_InvalidDepth : PySem.W.kitOne K (.ref C_InvalidDepth) (.ref C_InvalidDepth) = some true
  ki_InvalidDepth_InvalidWeights : PySem.W.kitOne K (.ref C_InvalidDepth) (.ref C_InvalidWeights) = some false
  ki_InvalidDepth_InvalidNumber : PySem.W.kitOne K (.ref C_InvalidDepth) (.ref C_InvalidNumber) = some false
  ki_InvalidWeights_SoundError : PySem.W.kitOne K (.ref C_InvalidWeights) (.ref C_SoundError) = some true
  ki_InvalidWeights_InvalidDepth : PySem.W.kitOne K (.ref C_InvalidWeights) (.ref C_InvalidDepth) = some false
  ki_InvalidWeights_InvalidWeights : PySem.W.kitOne K (.ref C_InvalidWeights) (.ref C_InvalidWeights) = some true
  ki_InvalidWeights_InvalidNumber : PySem.W.kitOne K (.ref C_InvalidWeights) (.ref C_InvalidNumber) = some false
  kn_InvalidDepth : PySem.W.kitOne K (.type "NoneType") (.ref C_InvalidDepth) = some false
  kn_InvalidWeights : PySem.W.kitOne K (.type "NoneType") (.ref C_InvalidWeights) = some false
  kn_InvalidNumber : PySem.W.kitOne K (.type "NoneType") (.ref C_InvalidNumber) = some false
  ei_InvalidNumber : ExcI K C_InvalidNumber
  ei_InvalidDepth : ExcI K C_InvalidDepth
  ei_InvalidWeights : ExcI K C_InvalidWeights
  n_len : mg "len" = none
  n_sum : mg "sum" = none
  n_max : mg "max" = none
  n_min : mg "min" = none
  n_int : mg "int" = none
  n_bool : mg "bool" = none
  n_list : mg "list" = none
  n_range : mg "range" = none
  n_isinstance : mg "isinstance" = none
  n_abs : mg "abs" = none
  n_enumerate : mg "enumerate" = none
  n_zip : mg "zip" = none
  n_repr : mg "repr" = none
  n_super : mg "super" = none
  t_MOST_DEPTH : Tok
  m_MOST_DEPTH : mg "MOST_DEPTH" = some (.int 24 t_MOST_DEPTH)
  t_MOST_WEIGHTS : Tok
  m_MOST_WEIGHTS : mg "MOST_WEIGHTS" = some (.int 8 t_MOST_WEIGHTS)
  t_MOST_WEIGHT : Tok
  m_MOST_WEIGHT : mg "MOST_WEIGHT" = some (.int 32768 t_MOST_WEIGHT)
  t_MOST_PLACE : Tok
  m_MOST_PLACE : mg "MOST_PLACE" = some (.int 1000000000000000000 t_MOST_PLACE)
def d_wall : He.DefD := ⟨("_wall", none), "_wall", "_wall", defArgs s_wall, defBody s_wall, defScope s_wall, [], []⟩
def d_is_whole : He.DefD := ⟨("is_whole", none), "is_whole", "is_whole", defArgs s_is_whole, defBody s_is_whole, defScope s_is_whole, [], []⟩
def d_is_between : He.DefD := ⟨("is_between", none), "is_between", "is_between", defArgs s_is_between, defBody s_is_between, defScope s_is_between, [], []⟩
def d_are_wholes : He.DefD := ⟨("are_wholes", none), "are_wholes", "are_wholes", defArgs s_are_wholes, defBody s_are_wholes, defScope s_are_wholes, [], []⟩
def d_check_depth : He.DefD := ⟨("check_depth", none), "check_depth", "check_depth", defArgs s_check_depth, defBody s_check_depth, defScope s_check_depth, [.int 24], []⟩
def d_check_number : He.DefD := ⟨("check_number", none), "check_number", "check_number", defArgs s_check_number, defBody s_check_number, defScope s_check_number, [], []⟩
def d_unit_rows : He.DefD := ⟨("unit_rows", none), "unit_rows", "unit_rows", defArgs s_unit_rows, defBody s_unit_rows, defScope s_unit_rows, [], []⟩
def d_twos_of : He.DefD := ⟨("twos_of", none), "twos_of", "twos_of", defArgs s_twos_of, defBody s_twos_of, defScope s_twos_of, [], []⟩
def d_inverse : He.DefD := ⟨("inverse", none), "inverse", "inverse", defArgs s_inverse, defBody s_inverse, defScope s_inverse, [], []⟩
def d_dotted : He.DefD := ⟨("dotted", none), "dotted", "dotted", defArgs s_dotted, defBody s_dotted, defScope s_dotted, [], []⟩
def d_exchange_columns : He.DefD := ⟨("exchange_columns", none), "exchange_columns", "exchange_columns", defArgs s_exchange_columns, defBody s_exchange_columns, defScope s_exchange_columns, [], []⟩
def d_take_columns : He.DefD := ⟨("take_columns", none), "take_columns", "take_columns", defArgs s_take_columns, defBody s_take_columns, defScope s_take_columns, [], []⟩
def d_reduced : He.DefD := ⟨("reduced", none), "reduced", "reduced", defArgs s_reduced, defBody s_reduced, defScope s_reduced, [], []⟩
def d_multiplied : He.DefD := ⟨("multiplied", none), "multiplied", "multiplied", defArgs s_multiplied, defBody s_multiplied, defScope s_multiplied, [], []⟩
def d_moved_by : He.DefD := ⟨("moved_by", none), "moved_by", "moved_by", defArgs s_moved_by, defBody s_moved_by, defScope s_moved_by, [], []⟩
def d_turn_of : He.DefD := ⟨("turn_of", none), "turn_of", "turn_of", defArgs s_turn_of, defBody s_turn_of, defScope s_turn_of, [], []⟩
def d_factors_of : He.DefD := ⟨("factors_of", none), "factors_of", "factors_of", defArgs s_factors_of, defBody s_factors_of, defScope s_factors_of, [], []⟩
def d_wrapped : He.DefD := ⟨("wrapped", none), "wrapped", "wrapped", defArgs s_wrapped, defBody s_wrapped, defScope s_wrapped, [], []⟩
def d_check_rule : He.DefD := ⟨("check_rule", none), "check_rule", "check_rule", defArgs s_check_rule, defBody s_check_rule, defScope s_check_rule, [], []⟩
def d_told_at : He.DefD := ⟨("told_at", none), "told_at", "told_at", defArgs s_told_at, defBody s_told_at, defScope s_told_at, [], []⟩
def d_gone_on : He.DefD := ⟨("gone_on", none), "gone_on", "gone_on", defArgs s_gone_on, defBody s_gone_on, defScope s_gone_on, [], []⟩
def d_state_at : He.DefD := ⟨("state_at", none), "state_at", "state_at", defArgs s_state_at, defBody s_state_at, defScope s_state_at, [], []⟩
def d_head_of : He.DefD := ⟨("head_of", none), "head_of", "head_of", defArgs s_head_of, defBody s_head_of, defScope s_head_of, [], []⟩
def d_period_of : He.DefD := ⟨("period_of", none), "period_of", "period_of", defArgs s_period_of, defBody s_period_of, defScope s_period_of, [], []⟩
def d_last_alone : He.DefD := ⟨("last_alone", none), "last_alone", "last_alone", defArgs s_last_alone, defBody s_last_alone, defScope s_last_alone, [], []⟩
def d_longest_period : He.DefD := ⟨("longest_period", none), "longest_period", "longest_period", defArgs s_longest_period, defBody s_longest_period, defScope s_longest_period, [], []⟩
def d_returning : He.DefD := ⟨("returning", none), "returning", "returning", defArgs s_returning, defBody s_returning, defScope s_returning, [], []⟩
def d_law_hash : He.DefD := ⟨("_law_hash", none), "_law_hash", "_law_hash", defArgs s_law_hash, defBody s_law_hash, defScope s_law_hash, [], []⟩
def d_law_generator : He.DefD := ⟨("_law_generator", none), "_law_generator", "_law_generator", defArgs s_law_generator, defBody s_law_generator, defScope s_law_generator, [], []⟩
def d_law_random : He.DefD := ⟨("_law_random", none), "_law_random", "_law_random", defArgs s_law_random, defBody s_law_random, defScope s_law_random, [], []⟩
def d_law_weights : He.DefD := ⟨("_law_weights", none), "_law_weights", "_law_weights", defArgs s_law_weights, defBody s_law_weights, defScope s_law_weights, [], []⟩
def d_law_sum : He.DefD := ⟨("_law_sum", none), "_law_sum", "_law_sum", defArgs s_law_sum, defBody s_law_sum, defScope s_law_sum, [], []⟩
def d_law_gone : He.DefD := ⟨("_law_gone", none), "_law_gone", "_law_gone", defArgs s_law_gone, defBody s_law_gone, defScope s_law_gone, [], []⟩
def d_law_small : He.DefD := ⟨("_law_small", none), "_law_small", "_law_small", defArgs s_law_small, defBody s_law_small, defScope s_law_small, [], []⟩
def d_law_lists : He.DefD := ⟨("_law_lists", none), "_law_lists", "_law_lists", defArgs s_law_lists, defBody s_law_lists, defScope s_law_lists, [], []⟩
def d_law_count : He.DefD := ⟨("_law_count", none), "_law_count", "_law_count", defArgs s_law_count, defBody s_law_count, defScope s_law_count, [], []⟩
def d_law_small_good : He.DefD := ⟨("_law_small_good", none), "_law_small_good", "_law_small_good", defArgs s_law_small_good, defBody s_law_small_good, defScope s_law_small_good, [], []⟩
def d_law_great_good : He.DefD := ⟨("_law_great_good", none), "_law_great_good", "_law_great_good", defArgs s_law_great_good, defBody s_law_great_good, defScope s_law_great_good, [], []⟩
def d_law_caught : He.DefD := ⟨("_law_caught", none), "_law_caught", "_law_caught", defArgs s_law_caught, defBody s_law_caught, defScope s_law_caught, [], []⟩
def d_law_refused : He.DefD := ⟨("_law_refused", none), "_law_refused", "_law_refused", defArgs s_law_refused, defBody s_law_refused, defScope s_law_refused, [], []⟩
def d_law : He.DefD := ⟨("law", none), "law", "law", defArgs s_law, defBody s_law, defScope s_law, [], []⟩
def d_Shape___init__ : He.DefD := ⟨("Shape", some "__init__"), "__init__", "Shape.__init__", defArgs s_Shape___init__, defBody s_Shape___init__, defScope s_Shape___init__, [], []⟩
def d_Shape_lessened : He.DefD := ⟨("Shape", some "lessened"), "lessened", "Shape.lessened", defArgs s_Shape_lessened, defBody s_Shape_lessened, defScope s_Shape_lessened, [], []⟩
def d_Shape_best : He.DefD := ⟨("Shape", some "best"), "best", "Shape.best", defArgs s_Shape_best, defBody s_Shape_best, defScope s_Shape_best, [], []⟩
def d_Shape_clear : He.DefD := ⟨("Shape", some "clear"), "clear", "Shape.clear", defArgs s_Shape_clear, defBody s_Shape_clear, defScope s_Shape_clear, [], []⟩
def d_Shape_take_row : He.DefD := ⟨("Shape", some "take_row"), "take_row", "Shape.take_row", defArgs s_Shape_take_row, defBody s_Shape_take_row, defScope s_Shape_take_row, [], []⟩
def d_Shape_take_column : He.DefD := ⟨("Shape", some "take_column"), "take_column", "Shape.take_column", defArgs s_Shape_take_column, defBody s_Shape_take_column, defScope s_Shape_take_column, [], []⟩
def d_Shape_led : He.DefD := ⟨("Shape", some "led"), "led", "Shape.led", defArgs s_Shape_led, defBody s_Shape_led, defScope s_Shape_led, [], []⟩
def d_Shape_power_at : He.DefD := ⟨("Shape", some "power_at"), "power_at", "Shape.power_at", defArgs s_Shape_power_at, defBody s_Shape_power_at, defScope s_Shape_power_at, [], []⟩
def d_Shape_failing : He.DefD := ⟨("Shape", some "failing"), "failing", "Shape.failing", defArgs s_Shape_failing, defBody s_Shape_failing, defScope s_Shape_failing, [], []⟩
def d_Shape_solution : He.DefD := ⟨("Shape", some "solution"), "solution", "Shape.solution", defArgs s_Shape_solution, defBody s_Shape_solution, defScope s_Shape_solution, [], []⟩
def d_Shape_barring : He.DefD := ⟨("Shape", some "barring"), "barring", "Shape.barring", defArgs s_Shape_barring, defBody s_Shape_barring, defScope s_Shape_barring, [], []⟩
def d_Shape_kernel_size : He.DefD := ⟨("Shape", some "kernel_size"), "kernel_size", "Shape.kernel_size", defArgs s_Shape_kernel_size, defBody s_Shape_kernel_size, defScope s_Shape_kernel_size, [], []⟩
def d_Shape_column_of : He.DefD := ⟨("Shape", some "column_of"), "column_of", "Shape.column_of", defArgs s_Shape_column_of, defBody s_Shape_column_of, defScope s_Shape_column_of, [], []⟩
def d_Shape_reaches : He.DefD := ⟨("Shape", some "reaches"), "reaches", "Shape.reaches", defArgs s_Shape_reaches, defBody s_Shape_reaches, defScope s_Shape_reaches, [], []⟩
def d_Shape_power_of : He.DefD := ⟨("Shape", some "power_of"), "power_of", "Shape.power_of", defArgs s_Shape_power_of, defBody s_Shape_power_of, defScope s_Shape_power_of, [], []⟩
def d_Shape_mover : He.DefD := ⟨("Shape", some "mover"), "mover", "Shape.mover", defArgs s_Shape_mover, defBody s_Shape_mover, defScope s_Shape_mover, [], []⟩
def d_Shape_shares : He.DefD := ⟨("Shape", some "shares"), "shares", "Shape.shares", defArgs s_Shape_shares, defBody s_Shape_shares, defScope s_Shape_shares, [], []⟩
def fn : List He.DefD := [d_wall, d_is_whole, d_is_between, d_are_wholes, d_check_depth, d_check_number, d_unit_rows, d_twos_of, d_inverse, d_dotted, d_exchange_columns, d_take_columns, d_reduced, d_multiplied, d_moved_by, d_turn_of, d_factors_of, d_wrapped, d_check_rule, d_told_at, d_gone_on, d_state_at, d_head_of, d_period_of, d_last_alone, d_longest_period, d_returning, d_law_hash, d_law_generator, d_law_random, d_law_weights, d_law_sum, d_law_gone, d_law_small, d_law_lists, d_law_count, d_law_small_good, d_law_great_good, d_law_caught, d_law_refused, d_law, d_Shape___init__, d_Shape_lessened, d_Shape_best, d_Shape_clear, d_Shape_take_row, d_Shape_take_column, d_Shape_led, d_Shape_power_at, d_Shape_failing, d_Shape_solution, d_Shape_barring, d_Shape_kernel_size, d_Shape_column_of, d_Shape_reaches, d_Shape_power_of, d_Shape_mover, d_Shape_shares]
def fa0 : List He.Fa := [.glo "_wall", .glo "is_whole", .glo "is_between", .glo "are_wholes", .glo "check_depth", .glo "check_number", .glo "unit_rows", .glo "twos_of", .glo "inverse", .glo "dotted", .glo "exchange_columns", .glo "take_columns", .glo "reduced", .glo "multiplied", .glo "moved_by", .glo "turn_of", .glo "factors_of", .glo "wrapped", .glo "check_rule", .glo "told_at", .glo "gone_on", .glo "state_at", .glo "head_of", .glo "period_of", .glo "last_alone", .glo "longest_period", .glo "returning", .glo "_law_hash", .glo "_law_generator", .glo "_law_random"]
def fa1 : List He.Fa := [.glo "_law_weights", .glo "_law_sum", .glo "_law_gone", .glo "_law_small", .glo "_law_lists", .glo "_law_count", .glo "_law_small_good", .glo "_law_great_good", .glo "_law_caught", .glo "_law_refused", .glo "law", .free "len", .free "sum", .free "max", .free "min", .free "int", .free "bool", .free "list", .free "range", .free "isinstance", .free "abs", .free "enumerate", .free "zip", .free "repr", .free "super", .int "MOST_DEPTH" 24, .int "MOST_WEIGHTS" 8, .int "MOST_WEIGHT" 32768, .int "MOST_PLACE" 1000000000000000000, .glo "Shape"]
def fa2 : List He.Fa := [.cls "Shape", .noat "Shape" "size", .noat "Shape" "depth", .noat "Shape" "wide", .noat "Shape" "grid", .noat "Shape" "left", .noat "Shape" "right", .noat "Shape" "powers", .mkr "Shape", .meth "Shape" "__init__", .meth "Shape" "lessened", .meth "Shape" "best", .meth "Shape" "clear", .meth "Shape" "take_row", .meth "Shape" "take_column", .meth "Shape" "led", .meth "Shape" "power_at", .meth "Shape" "failing", .meth "Shape" "solution", .meth "Shape" "barring", .meth "Shape" "kernel_size", .meth "Shape" "column_of", .meth "Shape" "reaches", .meth "Shape" "power_of", .meth "Shape" "mover", .meth "Shape" "shares", .glo "InvalidNumber", .glo "InvalidDepth", .glo "InvalidWeights", .glo "SoundError"]
def fa : List He.Fa := fa0 ++ fa1 ++ fa2
/-- isinstance of an own class -/
def insB (K : PySem.W.Frag) (x : Str) : Bool := decide (PySem.W.findIn K (.ref (He.ga K x)) "__class__" = some (some (.builtin "object.__class__"))) && (decide (PySem.W.specialIn K (.builtin "object.__class__") "__get__" = some (some (.builtin "getset_descriptor.__get__"))) && (decide (PySem.W.takesIn K (.builtin "object.__class__") = some true) && (decide (PySem.W.mroIn K (He.ga K x) (.type "object") = some true) && decide (PySem.W.kitOne K (.ref (He.ga K x)) (.ref (He.ga K x)) = some true))))
theorem insB_ok {K : PySem.W.Frag} {x : Str} (cl : Cls K (He.ga K x)) (h : insB K x = true) : C8.InsC K (He.ga K x) := by
  unfold insB at h
  simp only [Bool.and_eq_true, decide_eq_true_eq] at h
  exact ⟨cl, h.1, h.2.1, h.2.2.1, h.2.2.2.1, h.2.2.2.2⟩
def eqB (K : PySem.W.Frag) (x : Str) : Bool := decide (PySem.W.findIn K (.ref (He.ga K x)) "__ne__" = some (some (.builtin "object.__ne__"))) && (decide (PySem.W.subIn K (.ref (He.ga K x)) (.type "object") = some true) && (decide (PySem.W.subIn K (.type "list") (.ref (He.ga K x)) = some false) && (decide (PySem.W.kitOne K (.type "list") (.ref (He.ga K x)) = some false) && (decide (PySem.W.subIn K (.type "tuple") (.ref (He.ga K x)) = some false) && decide (PySem.W.kitOne K (.type "tuple") (.ref (He.ga K x)) = some false)))))
def eqs : List Str := []
def own : List Str := ["Shape"]
def ex (K : PySem.W.Frag) : Bool := (own.all fun x => insB K x) && eqs.all fun x => eqB K x
abbrev R : PySem.W.OpenRow := PySem.W.OpenLaw.row PySem.Challenge.rw_wholesound_k23_firsts_that_return
def errs : List Str := ["InvalidNumber", "InvalidDepth", "InvalidWeights"]
def ems : List (Str × Str × Bool) := [(("InvalidNumber" : Str), ("SoundError" : Str), true), (("InvalidNumber" : Str), ("InvalidDepth" : Str), false), (("InvalidNumber" : Str), ("InvalidWeights" : Str), false), (("InvalidNumber" : Str), ("InvalidNumber" : Str), true), (("InvalidDepth" : Str), ("SoundError" : Str), true), (("InvalidDepth" : Str), ("InvalidDepth" : Str), true), (("InvalidDepth" : Str), ("InvalidWeights" : Str), false), (("InvalidDepth" : Str), ("InvalidNumber" : Str), false), (("InvalidWeights" : Str), ("SoundError" : Str), true), (("InvalidWeights" : Str), ("InvalidDepth" : Str), false), (("InvalidWeights" : Str), ("InvalidWeights" : Str), true), (("InvalidWeights" : Str), ("InvalidNumber" : Str), false)]
def emB (K : PySem.W.Frag) (z : Str × Str × Bool) : Bool := decide (PySem.W.exmOne K (.ref (He.ga K z.1)) (.ref (He.ga K z.2.1)) = some z.2.2) && (decide (PySem.W.kitOne K (.ref (He.ga K z.1)) (.ref (He.ga K z.2.1)) = some z.2.2) && (decide (PySem.W.kitOne K (.type "NoneType") (.ref (He.ga K z.2.1)) = some false) && (decide (PySem.W.findIn K (.ref (He.ga K z.1)) "__class__" = some (some (.builtin "object.__class__"))) && (decide (PySem.W.specialIn K (.builtin "object.__class__") "__get__" = some (some (.builtin "getset_descriptor.__get__"))) && (decide (PySem.W.takesIn K (.builtin "object.__class__") = some true) && (decide (PySem.W.mroIn K (He.ga K z.1) (.type "object") = some true)))))))
theorem emB_ok {K : PySem.W.Frag} {z : Str × Str × Bool} (h : emB K z = true) : PySem.W.exmOne K (.ref (He.ga K z.1)) (.ref (He.ga K z.2.1)) = some z.2.2 ∧ PySem.W.kitOne K (.ref (He.ga K z.1)) (.ref (He.ga K z.2.1)) = some z.2.2 ∧ PySem.W.kitOne K (.type "NoneType") (.ref (He.ga K z.2.1)) = some false ∧ PySem.W.findIn K (.ref (He.ga K z.1)) "__class__" = some (some (.builtin "object.__class__")) ∧ PySem.W.specialIn K (.builtin "object.__class__") "__get__" = some (some (.builtin "getset_descriptor.__get__")) ∧ PySem.W.takesIn K (.builtin "object.__class__") = some true ∧ PySem.W.mroIn K (He.ga K z.1) (.type "object") = some true := by
  unfold emB at h
  simp only [Bool.and_eq_true, decide_eq_true_eq] at h
  exact h
def erV : List ErW := [some (("__init__" : Str), ("InvalidNumber" : Str) ++ (".__init__" : Str), defArgs s_InvalidNumber___init__, FuncBody.stmts (defBody s_InvalidNumber___init__), defScope s_InvalidNumber___init__, mainGlobals, builtinsNs), some (("__init__" : Str), ("InvalidDepth" : Str) ++ (".__init__" : Str), defArgs s_InvalidDepth___init__, FuncBody.stmts (defBody s_InvalidDepth___init__), defScope s_InvalidDepth___init__, mainGlobals, builtinsNs), some (("__init__" : Str), ("InvalidWeights" : Str) ++ (".__init__" : Str), defArgs s_InvalidWeights___init__, FuncBody.stmts (defBody s_InvalidWeights___init__), defScope s_InvalidWeights___init__, mainGlobals, builtinsNs)]
def exP (K : PySem.W.Frag) : Bool := ex K && ((errs.all fun z => errB K fileS z) && ems.all fun z => emB K z)
def exW (K : PySem.W.Frag) : List ErW := errs.map fun z => erW K z
abbrev Al : Type := He.AlD × Bool × List ErW
def frK (g : Addr → Option Obj) : PySem.W.Frag := He.frG g (cStatics :: He.asD g 5)
def obsG (g : Addr → Option Obj) : Al := (He.obsD fa fn (frK g), exP (frK g), exW (frK g))
def Says (K : PySem.W.Frag) : Prop := He.SaysD fa fn K ∧ ex K = true ∧ (∀ z ∈ errs, errB K fileS z = true) ∧ (∀ z ∈ ems, emB K z = true) ∧ exW K = erV
theorem says_of {K : PySem.W.Frag} (e : (He.obsD fa fn K, exP K, exW K) = ((He.valD fn, true, erV) : Al)) : Says K := by
  have e1 := congrArg Prod.fst e
  have e2 := congrArg (fun z : Al => z.2.1) e
  have e3 := congrArg (fun z : Al => z.2.2) e
  have e4 : ex K = true ∧ ((errs.all fun z => errB K fileS z) && ems.all fun z => emB K z) = true := Bool.and_eq_true_iff.mp (show (ex K && ((errs.all fun z => errB K fileS z) && ems.all fun z => emB K z)) = true from e2)
  have e5 : (errs.all fun z => errB K fileS z) = true ∧ (ems.all fun z => emB K z) = true := Bool.and_eq_true_iff.mp e4.2
  exact ⟨e1, e4.1, List.all_eq_true.mp e5.1, List.all_eq_true.mp e5.2, e3⟩
theorem erV_at {K : PySem.W.Frag} {ps : List Str} {vs : List ErW} (e : (ps.map fun z => erW K z) = vs) (i : Nat) {z : Str} {v : ErW} (hz : ps[i]? = some z) (hv : vs[i]? = some v) : erW K z = v := by
  rw [← e, List.getElem?_map, hz] at hv
  exact Option.some.inj hv
def hk : PySem.W.Hook where
  α := Al
  obs := fun s => obsG s.heap.get?
  val := fun _ => (He.valD fn, true, erV)
  says := fun _ h => ∃ K : PySem.W.Frag, K.In h ∧ Says K
  of := fun _ _ e => ⟨_, He.frG_in, says_of e⟩
  keeps := fun _ _ _ ⟨K, hK, c⟩ k => ⟨K, PySem.W.Frag.In.keeps hK k, c⟩
def ob (s : PySem.W.SharedT) : Al := obsG (HandSHeadRun.getT s)
theorem ob_eq (s : PySem.W.SharedT) : ob s = hk.obs s.abs := by
  have e : HandSHeadRun.getT s = s.abs.heap.get? := funext (HandSHeadRun.getT_eq s)
  show obsG (HandSHeadRun.getT s) = obsG s.abs.heap.get?
  rw [e]
def loose0 : List PySem.Str := ["_wall", "SoundError", "InvalidNumber", "InvalidDepth", "InvalidWeights", "MOST_DEPTH", "is_whole", "is_between", "are_wholes", "check_depth", "check_number", "unit_rows", "twos_of", "inverse", "dotted", "exchange_columns", "take_columns", "Shape", "reduced", "multiplied", "moved_by", "turn_of", "factors_of", "wrapped", "MOST_WEIGHTS", "MOST_WEIGHT", "MOST_PLACE", "check_rule", "told_at", "gone_on"]
def loose1 : List PySem.Str := ["state_at", "head_of", "period_of", "last_alone", "longest_period", "returning", "_law_hash", "_law_generator", "_law_random", "_law_weights", "_law_sum", "_law_gone", "_law_small", "_law_lists", "_law_count", "_law_small_good", "_law_great_good", "_law_caught", "_law_refused"]
abbrev loose : List PySem.Str := loose0 ++ loose1
theorem run (w : World) : HandSHeadRun.RunEq R (PySem.W.view R.prog [56]) hk ob 8000 loose w := by
  intro os
  kernel_rfl
noncomputable def top_mk {K : PySem.W.Frag} {h : Heap} {mg : Str → Option Value} (X : K.In h) (G : h.Ns mainGlobals mg) (c : Says K) : Top K mg :=
  let p0 := c.1.def_ 0 (d := d_wall) rfl
  let p1 := c.1.def_ 1 (d := d_is_whole) rfl
  let p2 := c.1.def_ 2 (d := d_is_between) rfl
  let p3 := c.1.def_ 3 (d := d_are_wholes) rfl
  let p4 := c.1.def_ 4 (d := d_check_depth) rfl
  let p5 := c.1.def_ 5 (d := d_check_number) rfl
  let p6 := c.1.def_ 6 (d := d_unit_rows) rfl
  let p7 := c.1.def_ 7 (d := d_twos_of) rfl
  let p8 := c.1.def_ 8 (d := d_inverse) rfl
  let p9 := c.1.def_ 9 (d := d_dotted) rfl
  let p10 := c.1.def_ 10 (d := d_exchange_columns) rfl
  let p11 := c.1.def_ 11 (d := d_take_columns) rfl
  let p12 := c.1.def_ 12 (d := d_reduced) rfl
  let p13 := c.1.def_ 13 (d := d_multiplied) rfl
  let p14 := c.1.def_ 14 (d := d_moved_by) rfl
  let p15 := c.1.def_ 15 (d := d_turn_of) rfl
  let p16 := c.1.def_ 16 (d := d_factors_of) rfl
  let p17 := c.1.def_ 17 (d := d_wrapped) rfl
  let p18 := c.1.def_ 18 (d := d_check_rule) rfl
  let p19 := c.1.def_ 19 (d := d_told_at) rfl
  let p20 := c.1.def_ 20 (d := d_gone_on) rfl
  let p21 := c.1.def_ 21 (d := d_state_at) rfl
  let p22 := c.1.def_ 22 (d := d_head_of) rfl
  let p23 := c.1.def_ 23 (d := d_period_of) rfl
  let p24 := c.1.def_ 24 (d := d_last_alone) rfl
  let p25 := c.1.def_ 25 (d := d_longest_period) rfl
  let p26 := c.1.def_ 26 (d := d_returning) rfl
  let p27 := c.1.def_ 27 (d := d_law_hash) rfl
  let p28 := c.1.def_ 28 (d := d_law_generator) rfl
  let p29 := c.1.def_ 29 (d := d_law_random) rfl
  let p30 := c.1.def_ 30 (d := d_law_weights) rfl
  let p31 := c.1.def_ 31 (d := d_law_sum) rfl
  let p32 := c.1.def_ 32 (d := d_law_gone) rfl
  let p33 := c.1.def_ 33 (d := d_law_small) rfl
  let p34 := c.1.def_ 34 (d := d_law_lists) rfl
  let p35 := c.1.def_ 35 (d := d_law_count) rfl
  let p36 := c.1.def_ 36 (d := d_law_small_good) rfl
  let p37 := c.1.def_ 37 (d := d_law_great_good) rfl
  let p38 := c.1.def_ 38 (d := d_law_caught) rfl
  let p39 := c.1.def_ 39 (d := d_law_refused) rfl
  let p40 := c.1.def_ 40 (d := d_law) rfl
  let p41 := c.1.def_ 41 (d := d_Shape___init__) rfl
  let p42 := c.1.def_ 42 (d := d_Shape_lessened) rfl
  let p43 := c.1.def_ 43 (d := d_Shape_best) rfl
  let p44 := c.1.def_ 44 (d := d_Shape_clear) rfl
  let p45 := c.1.def_ 45 (d := d_Shape_take_row) rfl
  let p46 := c.1.def_ 46 (d := d_Shape_take_column) rfl
  let p47 := c.1.def_ 47 (d := d_Shape_led) rfl
  let p48 := c.1.def_ 48 (d := d_Shape_power_at) rfl
  let p49 := c.1.def_ 49 (d := d_Shape_failing) rfl
  let p50 := c.1.def_ 50 (d := d_Shape_solution) rfl
  let p51 := c.1.def_ 51 (d := d_Shape_barring) rfl
  let p52 := c.1.def_ 52 (d := d_Shape_kernel_size) rfl
  let p53 := c.1.def_ 53 (d := d_Shape_column_of) rfl
  let p54 := c.1.def_ 54 (d := d_Shape_reaches) rfl
  let p55 := c.1.def_ 55 (d := d_Shape_power_of) rfl
  let p56 := c.1.def_ 56 (d := d_Shape_mover) rfl
  let p57 := c.1.def_ 57 (d := d_Shape_shares) rfl
  let q0 := He.int_ok X G (c.1.fact 55 (f := .int "MOST_DEPTH" 24) rfl)
  let q1 := He.int_ok X G (c.1.fact 56 (f := .int "MOST_WEIGHTS" 8) rfl)
  let q2 := He.int_ok X G (c.1.fact 57 (f := .int "MOST_WEIGHT" 32768) rfl)
  let q3 := He.int_ok X G (c.1.fact 58 (f := .int "MOST_PLACE" 1000000000000000000) rfl)
  let er0 := err_ok (K := K) (file := fileS) (x := "InvalidNumber") (st := s_InvalidNumber___init__) (c.2.2.1 "InvalidNumber" (by decide +kernel)) (erV_at c.2.2.2.2 0 (z := "InvalidNumber") rfl rfl) (fun _ _ _ _ _ _ _ _ us its h1 h2 => match us, its, h1, h2 with | [_, _], [_], _, _ => ⟨_, rfl, rfl⟩)
  let er1 := err_ok (K := K) (file := fileS) (x := "InvalidDepth") (st := s_InvalidDepth___init__) (c.2.2.1 "InvalidDepth" (by decide +kernel)) (erV_at c.2.2.2.2 1 (z := "InvalidDepth") rfl rfl) (fun _ _ _ _ _ _ _ _ us its h1 h2 => match us, its, h1, h2 with | [_, _], [_], _, _ => ⟨_, rfl, rfl⟩)
  let er2 := err_ok (K := K) (file := fileS) (x := "InvalidWeights") (st := s_InvalidWeights___init__) (c.2.2.1 "InvalidWeights" (by decide +kernel)) (erV_at c.2.2.2.2 2 (z := "InvalidWeights") rfl rfl) (fun _ _ _ _ _ _ _ _ us its h1 h2 => match us, its, h1, h2 with | [_, _], [_], _, _ => ⟨_, rfl, rfl⟩)
  { C_InvalidNumber := _, gc_InvalidNumber := He.glo_ok X G (c.1.fact 86 (f := .glo "InvalidNumber") rfl), fi_InvalidNumber := _, fd_InvalidNumber := er0.choose, er_InvalidNumber := er0.choose_spec,
    C_InvalidDepth := _, gc_InvalidDepth := He.glo_ok X G (c.1.fact 87 (f := .glo "InvalidDepth") rfl), fi_InvalidDepth := _, fd_InvalidDepth := er1.choose, er_InvalidDepth := er1.choose_spec,
    C_InvalidWeights := _, gc_InvalidWeights := He.glo_ok X G (c.1.fact 88 (f := .glo "InvalidWeights") rfl), fi_InvalidWeights := _, fd_InvalidWeights := er2.choose, er_InvalidWeights := er2.choose_spec,
    C_SoundError := _, gc_SoundError := He.glo_ok X G (c.1.fact 89 (f := .glo "SoundError") rfl),
    em_InvalidNumber_SoundError := (emB_ok (c.2.2.2.1 ("InvalidNumber", "SoundError", true) (by decide +kernel))).1, ki_InvalidNumber_SoundError := (emB_ok (c.2.2.2.1 ("InvalidNumber", "SoundError", true) (by decide +kernel))).2.1,
    em_InvalidNumber_InvalidDepth := (emB_ok (c.2.2.2.1 ("InvalidNumber", "InvalidDepth", false) (by decide +kernel))).1, ki_InvalidNumber_InvalidDepth := (emB_ok (c.2.2.2.1 ("InvalidNumber", "InvalidDepth", false) (by decide +kernel))).2.1,
    em_InvalidNumber_InvalidWeights := (emB_ok (c.2.2.2.1 ("InvalidNumber", "InvalidWeights", false) (by decide +kernel))).1, ki_InvalidNumber_InvalidWeights := (emB_ok (c.2.2.2.1 ("InvalidNumber", "InvalidWeights", false) (by decide +kernel))).2.1,
    em_InvalidNumber_InvalidNumber := (emB_ok (c.2.2.2.1 ("InvalidNumber", "InvalidNumber", true) (by decide +kernel))).1, ki_InvalidNumber_InvalidNumber := (emB_ok (c.2.2.2.1 ("InvalidNumber", "InvalidNumber", true) (by decide +kernel))).2.1,
    em_InvalidDepth_SoundError := (emB_ok (c.2.2.2.1 ("InvalidDepth", "SoundError", true) (by decide +kernel))).1, ki_InvalidDepth_SoundError := (emB_ok (c.2.2.2.1 ("InvalidDepth", "SoundError", true) (by decide +kernel))).2.1,
    em_InvalidDepth_InvalidDepth := (emB_ok (c.2.2.2.1 ("InvalidDepth", "InvalidDepth", true) (by decide +kernel))).1, ki_InvalidDepth_InvalidDepth := (emB_ok (c.2.2.2.1 ("InvalidDepth", "InvalidDepth", true) (by decide +kernel))).2.1,
    em_InvalidDepth_InvalidWeights := (emB_ok (c.2.2.2.1 ("InvalidDepth", "InvalidWeights", false) (by decide +kernel))).1, ki_InvalidDepth_InvalidWeights := (emB_ok (c.2.2.2.1 ("InvalidDepth", "InvalidWeights", false) (by decide +kernel))).2.1,
    em_InvalidDepth_InvalidNumber := (emB_ok (c.2.2.2.1 ("InvalidDepth", "InvalidNumber", false) (by decide +kernel))).1, ki_InvalidDepth_InvalidNumber := (emB_ok (c.2.2.2.1 ("InvalidDepth", "InvalidNumber", false) (by decide +kernel))).2.1,
    em_InvalidWeights_SoundError := (emB_ok (c.2.2.2.1 ("InvalidWeights", "SoundError", true) (by decide +kernel))).1, ki_InvalidWeights_SoundError := (emB_ok (c.2.2.2.1 ("InvalidWeights", "SoundError", true) (by decide +kernel))).2.1,
    em_InvalidWeights_InvalidDepth := (emB_ok (c.2.2.2.1 ("InvalidWeights", "InvalidDepth", false) (by decide +kernel))).1, ki_InvalidWeights_InvalidDepth := (emB_ok (c.2.2.2.1 ("InvalidWeights", "InvalidDepth", false) (by decide +kernel))).2.1,
    em_InvalidWeights_InvalidWeights := (emB_ok (c.2.2.2.1 ("InvalidWeights", "InvalidWeights", true) (by decide +kernel))).1, ki_InvalidWeights_InvalidWeights := (emB_ok (c.2.2.2.1 ("InvalidWeights", "InvalidWeights", true) (by decide +kernel))).2.1,
    em_InvalidWeights_InvalidNumber := (emB_ok (c.2.2.2.1 ("InvalidWeights", "InvalidNumber", false) (by decide +kernel))).1, ki_InvalidWeights_InvalidNumber := (emB_ok (c.2.2.2.1 ("InvalidWeights", "InvalidNumber", false) (by decide +kernel))).2.1,
    kn_InvalidDepth := (emB_ok (c.2.2.2.1 ("InvalidNumber", "InvalidDepth", false) (by decide +kernel))).2.2.1,
    kn_InvalidWeights := (emB_ok (c.2.2.2.1 ("InvalidNumber", "InvalidWeights", false) (by decide +kernel))).2.2.1,
    kn_InvalidNumber := (emB_ok (c.2.2.2.1 ("InvalidNumber", "InvalidNumber", true) (by decide +kernel))).2.2.1,
    ei_InvalidNumber := ⟨(er0.choose_spec).xf, (emB_ok (c.2.2.2.1 ("InvalidNumber", "SoundError", true) (by decide +kernel))).2.2.2.1, (emB_ok (c.2.2.2.1 ("InvalidNumber", "SoundError", true) (by decide +kernel))).2.2.2.2.1, (emB_ok (c.2.2.2.1 ("InvalidNumber", "SoundError", true) (by decide +kernel))).2.2.2.2.2.1, (emB_ok (c.2.2.2.1 ("InvalidNumber", "SoundError", true) (by decide +kernel))).2.2.2.2.2.2⟩,
    ei_InvalidDepth := ⟨(er1.choose_spec).xf, (emB_ok (c.2.2.2.1 ("InvalidDepth", "SoundError", true) (by decide +kernel))).2.2.2.1, (emB_ok (c.2.2.2.1 ("InvalidDepth", "SoundError", true) (by decide +kernel))).2.2.2.2.1, (emB_ok (c.2.2.2.1 ("InvalidDepth", "SoundError", true) (by decide +kernel))).2.2.2.2.2.1, (emB_ok (c.2.2.2.1 ("InvalidDepth", "SoundError", true) (by decide +kernel))).2.2.2.2.2.2⟩,
    ei_InvalidWeights := ⟨(er2.choose_spec).xf, (emB_ok (c.2.2.2.1 ("InvalidWeights", "SoundError", true) (by decide +kernel))).2.2.2.1, (emB_ok (c.2.2.2.1 ("InvalidWeights", "SoundError", true) (by decide +kernel))).2.2.2.2.1, (emB_ok (c.2.2.2.1 ("InvalidWeights", "SoundError", true) (by decide +kernel))).2.2.2.2.2.1, (emB_ok (c.2.2.2.1 ("InvalidWeights", "SoundError", true) (by decide +kernel))).2.2.2.2.2.2⟩,
    C_Shape := _, gc_Shape := He.glo_ok X G (c.1.fact 59 (f := .glo "Shape") rfl), cl_Shape := He.cls_ok (c.1.fact 60 (f := .cls "Shape") rfl), ic_Shape := insB_ok (x := "Shape") (He.cls_ok (c.1.fact 60 (f := .cls "Shape") rfl)) (List.all_eq_true.mp (Bool.and_eq_true_iff.mp c.2.1).1 "Shape" (by decide +kernel)),
    na_Shape_size := He.noat_ok (c.1.fact 61 (f := .noat "Shape" "size") rfl),
    na_Shape_depth := He.noat_ok (c.1.fact 62 (f := .noat "Shape" "depth") rfl),
    na_Shape_wide := He.noat_ok (c.1.fact 63 (f := .noat "Shape" "wide") rfl),
    na_Shape_grid := He.noat_ok (c.1.fact 64 (f := .noat "Shape" "grid") rfl),
    na_Shape_left := He.noat_ok (c.1.fact 65 (f := .noat "Shape" "left") rfl),
    na_Shape_right := He.noat_ok (c.1.fact 66 (f := .noat "Shape" "right") rfl),
    na_Shape_powers := He.noat_ok (c.1.fact 67 (f := .noat "Shape" "powers") rfl),
    f_wall := _, fd_wall := p0.choose, F_wall := p0.choose_spec, b_wall := p0.choose_spec.bindsN fun _ _ _ _ _ _ us hl => match us, hl with | [_], _ => rfl, g_wall := He.glo_ok X G (c.1.fact 0 (f := .glo "_wall") rfl),
    f_is_whole := _, fd_is_whole := p1.choose, F_is_whole := p1.choose_spec, b_is_whole := p1.choose_spec.bindsN fun _ _ _ _ _ _ us hl => match us, hl with | [_], _ => rfl, g_is_whole := He.glo_ok X G (c.1.fact 1 (f := .glo "is_whole") rfl),
    f_is_between := _, fd_is_between := p2.choose, F_is_between := p2.choose_spec, b_is_between := p2.choose_spec.bindsN fun _ _ _ _ _ _ us hl => match us, hl with | [_, _, _], _ => rfl, g_is_between := He.glo_ok X G (c.1.fact 2 (f := .glo "is_between") rfl),
    f_are_wholes := _, fd_are_wholes := p3.choose, F_are_wholes := p3.choose_spec, b_are_wholes := p3.choose_spec.bindsN fun _ _ _ _ _ _ us hl => match us, hl with | [_], _ => rfl, g_are_wholes := He.glo_ok X G (c.1.fact 3 (f := .glo "are_wholes") rfl),
    f_check_depth := _, fd_check_depth := p4.choose, F_check_depth := p4.choose_spec, b_check_depth := nil_binds (p4.choose_spec.binds1 (ps := ["depth", "most"]) 2 1 (by simp [He.DefD.dvs, d_check_depth]) rfl fun _ _ _ _ _ _ _ us its h1 h2 => match us, its, h1, h2 with | [_, _], [_], _, _ => ⟨_, rfl, rfl⟩), e0_check_depth := (p4.choose_spec.binds1 (ps := ["depth", "most"]) 1 0 (by simp [He.DefD.dvs, d_check_depth]) rfl fun _ _ _ _ _ _ _ us its h1 h2 => match us, its, h1, h2 with | [_], [_], _, _ => ⟨_, rfl, rfl⟩).choose, v0_check_depth := (p4.choose_spec.binds1 (ps := ["depth", "most"]) 1 0 (by simp [He.DefD.dvs, d_check_depth]) rfl fun _ _ _ _ _ _ _ us its h1 h2 => match us, its, h1, h2 with | [_], [_], _, _ => ⟨_, rfl, rfl⟩).choose_spec.1, b0_check_depth := (p4.choose_spec.binds1 (ps := ["depth", "most"]) 1 0 (by simp [He.DefD.dvs, d_check_depth]) rfl fun _ _ _ _ _ _ _ us its h1 h2 => match us, its, h1, h2 with | [_], [_], _, _ => ⟨_, rfl, rfl⟩).choose_spec.2, g_check_depth := He.glo_ok X G (c.1.fact 4 (f := .glo "check_depth") rfl),
    f_check_number := _, fd_check_number := p5.choose, F_check_number := p5.choose_spec, b_check_number := p5.choose_spec.bindsN fun _ _ _ _ _ _ us hl => match us, hl with | [_, _, _], _ => rfl, g_check_number := He.glo_ok X G (c.1.fact 5 (f := .glo "check_number") rfl),
    f_unit_rows := _, fd_unit_rows := p6.choose, F_unit_rows := p6.choose_spec, b_unit_rows := p6.choose_spec.bindsN fun _ _ _ _ _ _ us hl => match us, hl with | [_], _ => rfl, g_unit_rows := He.glo_ok X G (c.1.fact 6 (f := .glo "unit_rows") rfl),
    f_twos_of := _, fd_twos_of := p7.choose, F_twos_of := p7.choose_spec, b_twos_of := p7.choose_spec.bindsN fun _ _ _ _ _ _ us hl => match us, hl with | [_, _], _ => rfl, g_twos_of := He.glo_ok X G (c.1.fact 7 (f := .glo "twos_of") rfl),
    f_inverse := _, fd_inverse := p8.choose, F_inverse := p8.choose_spec, b_inverse := p8.choose_spec.bindsN fun _ _ _ _ _ _ us hl => match us, hl with | [_, _], _ => rfl, g_inverse := He.glo_ok X G (c.1.fact 8 (f := .glo "inverse") rfl),
    f_dotted := _, fd_dotted := p9.choose, F_dotted := p9.choose_spec, b_dotted := p9.choose_spec.bindsN fun _ _ _ _ _ _ us hl => match us, hl with | [_, _], _ => rfl, g_dotted := He.glo_ok X G (c.1.fact 9 (f := .glo "dotted") rfl),
    f_exchange_columns := _, fd_exchange_columns := p10.choose, F_exchange_columns := p10.choose_spec, b_exchange_columns := p10.choose_spec.bindsN fun _ _ _ _ _ _ us hl => match us, hl with | [_, _, _], _ => rfl, g_exchange_columns := He.glo_ok X G (c.1.fact 10 (f := .glo "exchange_columns") rfl),
    f_take_columns := _, fd_take_columns := p11.choose, F_take_columns := p11.choose_spec, b_take_columns := p11.choose_spec.bindsN fun _ _ _ _ _ _ us hl => match us, hl with | [_, _, _, _], _ => rfl, g_take_columns := He.glo_ok X G (c.1.fact 11 (f := .glo "take_columns") rfl),
    f_reduced := _, fd_reduced := p12.choose, F_reduced := p12.choose_spec, b_reduced := p12.choose_spec.bindsN fun _ _ _ _ _ _ us hl => match us, hl with | [_, _, _], _ => rfl, g_reduced := He.glo_ok X G (c.1.fact 12 (f := .glo "reduced") rfl),
    f_multiplied := _, fd_multiplied := p13.choose, F_multiplied := p13.choose_spec, b_multiplied := p13.choose_spec.bindsN fun _ _ _ _ _ _ us hl => match us, hl with | [_, _], _ => rfl, g_multiplied := He.glo_ok X G (c.1.fact 13 (f := .glo "multiplied") rfl),
    f_moved_by := _, fd_moved_by := p14.choose, F_moved_by := p14.choose_spec, b_moved_by := p14.choose_spec.bindsN fun _ _ _ _ _ _ us hl => match us, hl with | [_, _, _], _ => rfl, g_moved_by := He.glo_ok X G (c.1.fact 14 (f := .glo "moved_by") rfl),
    f_turn_of := _, fd_turn_of := p15.choose, F_turn_of := p15.choose_spec, b_turn_of := p15.choose_spec.bindsN fun _ _ _ _ _ _ us hl => match us, hl with | [_], _ => rfl, g_turn_of := He.glo_ok X G (c.1.fact 15 (f := .glo "turn_of") rfl),
    f_factors_of := _, fd_factors_of := p16.choose, F_factors_of := p16.choose_spec, b_factors_of := p16.choose_spec.bindsN fun _ _ _ _ _ _ us hl => match us, hl with | [_], _ => rfl, g_factors_of := He.glo_ok X G (c.1.fact 16 (f := .glo "factors_of") rfl),
    f_wrapped := _, fd_wrapped := p17.choose, F_wrapped := p17.choose_spec, b_wrapped := p17.choose_spec.bindsN fun _ _ _ _ _ _ us hl => match us, hl with | [_, _], _ => rfl, g_wrapped := He.glo_ok X G (c.1.fact 17 (f := .glo "wrapped") rfl),
    f_check_rule := _, fd_check_rule := p18.choose, F_check_rule := p18.choose_spec, b_check_rule := p18.choose_spec.bindsN fun _ _ _ _ _ _ us hl => match us, hl with | [_], _ => rfl, g_check_rule := He.glo_ok X G (c.1.fact 18 (f := .glo "check_rule") rfl),
    f_told_at := _, fd_told_at := p19.choose, F_told_at := p19.choose_spec, b_told_at := p19.choose_spec.bindsN fun _ _ _ _ _ _ us hl => match us, hl with | [_, _, _], _ => rfl, g_told_at := He.glo_ok X G (c.1.fact 19 (f := .glo "told_at") rfl),
    f_gone_on := _, fd_gone_on := p20.choose, F_gone_on := p20.choose_spec, b_gone_on := p20.choose_spec.bindsN fun _ _ _ _ _ _ us hl => match us, hl with | [_, _, _, _], _ => rfl, g_gone_on := He.glo_ok X G (c.1.fact 20 (f := .glo "gone_on") rfl),
    f_state_at := _, fd_state_at := p21.choose, F_state_at := p21.choose_spec, b_state_at := p21.choose_spec.bindsN fun _ _ _ _ _ _ us hl => match us, hl with | [_, _, _, _], _ => rfl, g_state_at := He.glo_ok X G (c.1.fact 21 (f := .glo "state_at") rfl),
    f_head_of := _, fd_head_of := p22.choose, F_head_of := p22.choose_spec, b_head_of := p22.choose_spec.bindsN fun _ _ _ _ _ _ us hl => match us, hl with | [_, _, _, _], _ => rfl, g_head_of := He.glo_ok X G (c.1.fact 22 (f := .glo "head_of") rfl),
    f_period_of := _, fd_period_of := p23.choose, F_period_of := p23.choose_spec, b_period_of := p23.choose_spec.bindsN fun _ _ _ _ _ _ us hl => match us, hl with | [_, _, _], _ => rfl, g_period_of := He.glo_ok X G (c.1.fact 23 (f := .glo "period_of") rfl),
    f_last_alone := _, fd_last_alone := p24.choose, F_last_alone := p24.choose_spec, b_last_alone := p24.choose_spec.bindsN fun _ _ _ _ _ _ us hl => match us, hl with | [_], _ => rfl, g_last_alone := He.glo_ok X G (c.1.fact 24 (f := .glo "last_alone") rfl),
    f_longest_period := _, fd_longest_period := p25.choose, F_longest_period := p25.choose_spec, b_longest_period := p25.choose_spec.bindsN fun _ _ _ _ _ _ us hl => match us, hl with | [_, _], _ => rfl, g_longest_period := He.glo_ok X G (c.1.fact 25 (f := .glo "longest_period") rfl),
    f_returning := _, fd_returning := p26.choose, F_returning := p26.choose_spec, b_returning := p26.choose_spec.bindsN fun _ _ _ _ _ _ us hl => match us, hl with | [_, _, _], _ => rfl, g_returning := He.glo_ok X G (c.1.fact 26 (f := .glo "returning") rfl),
    f_law_hash := _, fd_law_hash := p27.choose, F_law_hash := p27.choose_spec, b_law_hash := p27.choose_spec.bindsN fun _ _ _ _ _ _ us hl => match us, hl with | [_, _], _ => rfl, g_law_hash := He.glo_ok X G (c.1.fact 27 (f := .glo "_law_hash") rfl),
    f_law_generator := _, fd_law_generator := p28.choose, F_law_generator := p28.choose_spec, b_law_generator := p28.choose_spec.bindsN fun _ _ _ _ _ _ us hl => match us, hl with | [_, _], _ => rfl, g_law_generator := He.glo_ok X G (c.1.fact 28 (f := .glo "_law_generator") rfl),
    f_law_random := _, fd_law_random := p29.choose, F_law_random := p29.choose_spec, b_law_random := p29.choose_spec.bindsN fun _ _ _ _ _ _ us hl => match us, hl with | [_, _], _ => rfl, g_law_random := He.glo_ok X G (c.1.fact 29 (f := .glo "_law_random") rfl),
    f_law_weights := _, fd_law_weights := p30.choose, F_law_weights := p30.choose_spec, b_law_weights := p30.choose_spec.bindsN fun _ _ _ _ _ _ us hl => match us, hl with | [_, _], _ => rfl, g_law_weights := He.glo_ok X G (c.1.fact 30 (f := .glo "_law_weights") rfl),
    f_law_sum := _, fd_law_sum := p31.choose, F_law_sum := p31.choose_spec, b_law_sum := p31.choose_spec.bindsN fun _ _ _ _ _ _ us hl => match us, hl with | [_, _, _], _ => rfl, g_law_sum := He.glo_ok X G (c.1.fact 31 (f := .glo "_law_sum") rfl),
    f_law_gone := _, fd_law_gone := p32.choose, F_law_gone := p32.choose_spec, b_law_gone := p32.choose_spec.bindsN fun _ _ _ _ _ _ us hl => match us, hl with | [_, _, _, _], _ => rfl, g_law_gone := He.glo_ok X G (c.1.fact 32 (f := .glo "_law_gone") rfl),
    f_law_small := _, fd_law_small := p33.choose, F_law_small := p33.choose_spec, b_law_small := p33.choose_spec.bindsN fun _ _ _ _ _ _ us hl => match us, hl with | [_, _], _ => rfl, g_law_small := He.glo_ok X G (c.1.fact 33 (f := .glo "_law_small") rfl),
    f_law_lists := _, fd_law_lists := p34.choose, F_law_lists := p34.choose_spec, b_law_lists := p34.choose_spec.bindsN fun _ _ _ _ _ _ us hl => match us, hl with | [_, _], _ => rfl, g_law_lists := He.glo_ok X G (c.1.fact 34 (f := .glo "_law_lists") rfl),
    f_law_count := _, fd_law_count := p35.choose, F_law_count := p35.choose_spec, b_law_count := p35.choose_spec.bindsN fun _ _ _ _ _ _ us hl => match us, hl with | [_, _, _], _ => rfl, g_law_count := He.glo_ok X G (c.1.fact 35 (f := .glo "_law_count") rfl),
    f_law_small_good := _, fd_law_small_good := p36.choose, F_law_small_good := p36.choose_spec, b_law_small_good := p36.choose_spec.bindsN fun _ _ _ _ _ _ us hl => match us, hl with | [_], _ => rfl, g_law_small_good := He.glo_ok X G (c.1.fact 36 (f := .glo "_law_small_good") rfl),
    f_law_great_good := _, fd_law_great_good := p37.choose, F_law_great_good := p37.choose_spec, b_law_great_good := p37.choose_spec.bindsN fun _ _ _ _ _ _ us hl => match us, hl with | [_], _ => rfl, g_law_great_good := He.glo_ok X G (c.1.fact 37 (f := .glo "_law_great_good") rfl),
    f_law_caught := _, fd_law_caught := p38.choose, F_law_caught := p38.choose_spec, b_law_caught := p38.choose_spec.bindsN fun _ _ _ _ _ _ us hl => match us, hl with | [_], _ => rfl, g_law_caught := He.glo_ok X G (c.1.fact 38 (f := .glo "_law_caught") rfl),
    f_law_refused := _, fd_law_refused := p39.choose, F_law_refused := p39.choose_spec, b_law_refused := p39.choose_spec.bindsN fun _ _ _ _ _ _ us hl => match us, hl with | [], _ => rfl, g_law_refused := He.glo_ok X G (c.1.fact 39 (f := .glo "_law_refused") rfl),
    f_law := _, fd_law := p40.choose, F_law := p40.choose_spec, b_law := p40.choose_spec.bindsN fun _ _ _ _ _ _ us hl => match us, hl with | [_], _ => rfl, g_law := He.glo_ok X G (c.1.fact 40 (f := .glo "law") rfl),
    f_Shape___init__ := _, fd_Shape___init__ := p41.choose, F_Shape___init__ := p41.choose_spec, b_Shape___init__ := p41.choose_spec.bindsN fun _ _ _ _ _ _ us hl => match us, hl with | [_, _, _, _], _ => rfl, me_Shape___init__ := He.meth_ok (c.1.fact 69 (f := .meth "Shape" "__init__") rfl), mk_Shape := He.mkr_ok (c.1.fact 68 (f := .mkr "Shape") rfl),
    f_Shape_lessened := _, fd_Shape_lessened := p42.choose, F_Shape_lessened := p42.choose_spec, b_Shape_lessened := p42.choose_spec.bindsN fun _ _ _ _ _ _ us hl => match us, hl with | [_, _], _ => rfl, me_Shape_lessened := He.meth_ok (c.1.fact 70 (f := .meth "Shape" "lessened") rfl),
    f_Shape_best := _, fd_Shape_best := p43.choose, F_Shape_best := p43.choose_spec, b_Shape_best := p43.choose_spec.bindsN fun _ _ _ _ _ _ us hl => match us, hl with | [_, _], _ => rfl, me_Shape_best := He.meth_ok (c.1.fact 71 (f := .meth "Shape" "best") rfl),
    f_Shape_clear := _, fd_Shape_clear := p44.choose, F_Shape_clear := p44.choose_spec, b_Shape_clear := p44.choose_spec.bindsN fun _ _ _ _ _ _ us hl => match us, hl with | [_, _], _ => rfl, me_Shape_clear := He.meth_ok (c.1.fact 72 (f := .meth "Shape" "clear") rfl),
    f_Shape_take_row := _, fd_Shape_take_row := p45.choose, F_Shape_take_row := p45.choose_spec, b_Shape_take_row := p45.choose_spec.bindsN fun _ _ _ _ _ _ us hl => match us, hl with | [_, _, _, _], _ => rfl, me_Shape_take_row := He.meth_ok (c.1.fact 73 (f := .meth "Shape" "take_row") rfl),
    f_Shape_take_column := _, fd_Shape_take_column := p46.choose, F_Shape_take_column := p46.choose_spec, b_Shape_take_column := p46.choose_spec.bindsN fun _ _ _ _ _ _ us hl => match us, hl with | [_, _, _, _], _ => rfl, me_Shape_take_column := He.meth_ok (c.1.fact 74 (f := .meth "Shape" "take_column") rfl),
    f_Shape_led := _, fd_Shape_led := p47.choose, F_Shape_led := p47.choose_spec, b_Shape_led := p47.choose_spec.bindsN fun _ _ _ _ _ _ us hl => match us, hl with | [_, _], _ => rfl, me_Shape_led := He.meth_ok (c.1.fact 75 (f := .meth "Shape" "led") rfl),
    f_Shape_power_at := _, fd_Shape_power_at := p48.choose, F_Shape_power_at := p48.choose_spec, b_Shape_power_at := p48.choose_spec.bindsN fun _ _ _ _ _ _ us hl => match us, hl with | [_, _], _ => rfl, me_Shape_power_at := He.meth_ok (c.1.fact 76 (f := .meth "Shape" "power_at") rfl),
    f_Shape_failing := _, fd_Shape_failing := p49.choose, F_Shape_failing := p49.choose_spec, b_Shape_failing := p49.choose_spec.bindsN fun _ _ _ _ _ _ us hl => match us, hl with | [_, _], _ => rfl, me_Shape_failing := He.meth_ok (c.1.fact 77 (f := .meth "Shape" "failing") rfl),
    f_Shape_solution := _, fd_Shape_solution := p50.choose, F_Shape_solution := p50.choose_spec, b_Shape_solution := p50.choose_spec.bindsN fun _ _ _ _ _ _ us hl => match us, hl with | [_, _], _ => rfl, me_Shape_solution := He.meth_ok (c.1.fact 78 (f := .meth "Shape" "solution") rfl),
    f_Shape_barring := _, fd_Shape_barring := p51.choose, F_Shape_barring := p51.choose_spec, b_Shape_barring := p51.choose_spec.bindsN fun _ _ _ _ _ _ us hl => match us, hl with | [_, _], _ => rfl, me_Shape_barring := He.meth_ok (c.1.fact 79 (f := .meth "Shape" "barring") rfl),
    f_Shape_kernel_size := _, fd_Shape_kernel_size := p52.choose, F_Shape_kernel_size := p52.choose_spec, b_Shape_kernel_size := p52.choose_spec.bindsN fun _ _ _ _ _ _ us hl => match us, hl with | [_], _ => rfl, me_Shape_kernel_size := He.meth_ok (c.1.fact 80 (f := .meth "Shape" "kernel_size") rfl),
    f_Shape_column_of := _, fd_Shape_column_of := p53.choose, F_Shape_column_of := p53.choose_spec, b_Shape_column_of := p53.choose_spec.bindsN fun _ _ _ _ _ _ us hl => match us, hl with | [_, _], _ => rfl, me_Shape_column_of := He.meth_ok (c.1.fact 81 (f := .meth "Shape" "column_of") rfl),
    f_Shape_reaches := _, fd_Shape_reaches := p54.choose, F_Shape_reaches := p54.choose_spec, b_Shape_reaches := p54.choose_spec.bindsN fun _ _ _ _ _ _ us hl => match us, hl with | [_, _], _ => rfl, me_Shape_reaches := He.meth_ok (c.1.fact 82 (f := .meth "Shape" "reaches") rfl),
    f_Shape_power_of := _, fd_Shape_power_of := p55.choose, F_Shape_power_of := p55.choose_spec, b_Shape_power_of := p55.choose_spec.bindsN fun _ _ _ _ _ _ us hl => match us, hl with | [_, _], _ => rfl, me_Shape_power_of := He.meth_ok (c.1.fact 83 (f := .meth "Shape" "power_of") rfl),
    f_Shape_mover := _, fd_Shape_mover := p56.choose, F_Shape_mover := p56.choose_spec, b_Shape_mover := p56.choose_spec.bindsN fun _ _ _ _ _ _ us hl => match us, hl with | [_, _], _ => rfl, me_Shape_mover := He.meth_ok (c.1.fact 84 (f := .meth "Shape" "mover") rfl),
    f_Shape_shares := _, fd_Shape_shares := p57.choose, F_Shape_shares := p57.choose_spec, b_Shape_shares := p57.choose_spec.bindsN fun _ _ _ _ _ _ us hl => match us, hl with | [_, _], _ => rfl, me_Shape_shares := He.meth_ok (c.1.fact 85 (f := .meth "Shape" "shares") rfl),
    n_len := He.free_ok X G (c.1.fact 41 (f := .free "len") rfl),
    n_sum := He.free_ok X G (c.1.fact 42 (f := .free "sum") rfl),
    n_max := He.free_ok X G (c.1.fact 43 (f := .free "max") rfl),
    n_min := He.free_ok X G (c.1.fact 44 (f := .free "min") rfl),
    n_int := He.free_ok X G (c.1.fact 45 (f := .free "int") rfl),
    n_bool := He.free_ok X G (c.1.fact 46 (f := .free "bool") rfl),
    n_list := He.free_ok X G (c.1.fact 47 (f := .free "list") rfl),
    n_range := He.free_ok X G (c.1.fact 48 (f := .free "range") rfl),
    n_isinstance := He.free_ok X G (c.1.fact 49 (f := .free "isinstance") rfl),
    n_abs := He.free_ok X G (c.1.fact 50 (f := .free "abs") rfl),
    n_enumerate := He.free_ok X G (c.1.fact 51 (f := .free "enumerate") rfl),
    n_zip := He.free_ok X G (c.1.fact 52 (f := .free "zip") rfl),
    n_repr := He.free_ok X G (c.1.fact 53 (f := .free "repr") rfl),
    n_super := He.free_ok X G (c.1.fact 54 (f := .free "super") rfl),
    t_MOST_DEPTH := q0.choose, m_MOST_DEPTH := q0.choose_spec,
    t_MOST_WEIGHTS := q1.choose, m_MOST_WEIGHTS := q1.choose_spec,
    t_MOST_WEIGHT := q2.choose, m_MOST_WEIGHT := q2.choose_spec,
    t_MOST_PLACE := q3.choose, m_MOST_PLACE := q3.choose_spec }
theorem G_InvalidNumber___init__ {P : Program} {w : World} {K : PySem.W.Frag} {mg : Str → Option Value} {base : Heap} {CX : CXT} [Sup.PF P fileS] (T : Top K mg) : FnOk P w K mg base CX 1 T.fi_InvalidNumber T.fd_InvalidNumber ["self", "value"] (Sup.sp_exc_init T.C_InvalidNumber) := Sup.fn_sup nsc_InvalidNumber (by decide +kernel) sb_InvalidNumber T.er_InvalidNumber.sup T.n_super
theorem G_InvalidDepth___init__ {P : Program} {w : World} {K : PySem.W.Frag} {mg : Str → Option Value} {base : Heap} {CX : CXT} [Sup.PF P fileS] (T : Top K mg) : FnOk P w K mg base CX 1 T.fi_InvalidDepth T.fd_InvalidDepth ["self", "value"] (Sup.sp_exc_init T.C_InvalidDepth) := Sup.fn_sup nsc_InvalidDepth (by decide +kernel) sb_InvalidDepth T.er_InvalidDepth.sup T.n_super
theorem G_InvalidWeights___init__ {P : Program} {w : World} {K : PySem.W.Frag} {mg : Str → Option Value} {base : Heap} {CX : CXT} [Sup.PF P fileS] (T : Top K mg) : FnOk P w K mg base CX 1 T.fi_InvalidWeights T.fd_InvalidWeights ["self", "value"] (Sup.sp_exc_init T.C_InvalidWeights) := Sup.fn_sup nsc_InvalidWeights (by decide +kernel) sb_InvalidWeights T.er_InvalidWeights.sup T.n_super
end My

namespace My
open PySem PySem.Spec PyProof.Rows L2 Pre
open Sem (wp)
/-! ### zip(xs, ys, strict=True) of lists and tuples of one length -/
/-- a strict zip object -/
abbrev SZip (h : Heap) (z TI TO : Addr) (f0 : Value) : Prop :=
  h.get? z = some { cls := .type "zip", dict := none, data := .fields #[f0, .bool false, .bool true, .ref TI, .ref TO], slots := #[] }
section
variable {prog : Program} {w : World} {A : Around} {E : Value → Shared → Prop} {s : Shared}
theorem draw_some {it : Addr} {fp : List Addr} {n i : Nat} {Pd : Nat → Value → Prop} {St : Nat → Heap → Prop} {Q : Option Value → Shared → Prop} (Dr : Draws prog w A it fp n Pd St) (lt : i < n) (st : St i s.heap)
    (go : ∀ x g' tk, Pd i x → St (i + 1) g' → Heap.SameBut it s.heap g' → Q (some x) { s with heap := g', toks := tk }) : wpAny (model prog w) A (Builtin.SmallTypes.nextOrEnd (.ref it)) Q E s := by
  unfold Builtin.SmallTypes.nextOrEnd
  exact wpAny_bind (wpAny_attempt (Dr.item i _ _ _ lt st fun x g' tk px st' sb => wpAny_pure (go x g' tk px st' sb)))
theorem draw_none {it : Addr} {fp : List Addr} {n : Nat} {Pd : Nat → Value → Prop} {St : Nat → Heap → Prop} {Q : Option Value → Shared → Prop} (Dr : Draws prog w A it fp n Pd St) (st : St n s.heap)
    (go : ∀ g', Heap.ExtBut it s.heap g' → Q none { s with heap := g' }) : wpAny (model prog w) A (Builtin.SmallTypes.nextOrEnd (.ref it)) Q E s := by
  unfold Builtin.SmallTypes.nextOrEnd
  refine wpAny_bind (wpAny_attempt (Dr.done _ _ _ st fun g' e ext he => ?_))
  obtain ⟨o, ho, hc⟩ := he
  exact wpAny_bind (wpAny_isInstance (T := "StopIteration") (b := true) ⟨o, ho, hc⟩ isSubtype_stop (wpAny_pure (go g' ext)))
theorem stop_raised {α : Type} {Q : α → Shared → Prop} (hh : A.handled = none) (go : ∀ g' e, (∀ c o, s.heap.get? c = some o → g'.get? c = some o) → (∃ o, g'.get? e = some o ∧ o.cls = .type "StopIteration") → E (.ref e) { s with heap := g' }) :
    wpAny (model prog w) A (Builtin.SmallTypes.stopIteration (α := α)) Q E s := by
  (show wpAny _ _ (newExc (.type "StopIteration") [] >>= _) _ _ _); refine wpAny_bind ?_; simp only [newExc, newTuple]
  refine wpAny_bind (wpAny_newObj_type (wpAny_bind (m := firstArgMember _ _) (wpAny_of_eq (a := Value.none) (by first | rfl | (simp only [firstArgMember]; rfl)) (wpAny_newObj_type ?_ (by size_fits)))) (by size_fits))
  simp only [raiseNew]; refine wpAny_bind (wpAny_handled ?_); rw [hh]; refine wpAny_bind (wpAny_pure (wpAny_throw ?_))
  exact go _ _ (fun c o e => Heap.get?_push_of_some _ (Heap.get?_push_of_some _ e)) ⟨_, Heap.get?_push_size _ rfl, rfl⟩
theorem zs_next (hh : A.handled = none) {z TI TO i1 i2 : Addr} {fp1 fp2 : List Addr} {n i : Nat} {Pa Pb : Nat → Value → Prop} {Sa Sb : Nat → Heap → Prop} {a b : Value} {Q : Value → Shared → Prop} (S : ZipSep2 z TI TO i1 i2 fp1 fp2)
    (Da : Draws prog w A i1 fp1 n Pa Sa) (Db : Draws prog w A i2 fp2 n Pb Sb) (hz : SZip s.heap z TI TO .none) (hI : IsTupOf2 s.heap TI (.ref i1) (.ref i2)) (hO : IsTupOf2 s.heap TO a b) (sa : Sa i s.heap) (sb : Sb i s.heap) (le : i ≤ n)
    (goes : i < n → ∀ x y g' tk, Pa i x → Pb i y → SZip g' z TI TO (rawInt s.heap.objs.size) → IsTupOf2 g' TO x y → Sa (i + 1) g' → Sb (i + 1) g' → IsTupOf2 g' s.heap.objs.size x y → g'.objs.size = s.heap.objs.size + 1 →
      (∀ c o, c ≠ z → c ≠ TO → c ≠ i1 → c ≠ i2 → s.heap.get? c = some o → g'.get? c = some o) → Q (.ref s.heap.objs.size) { s with heap := g', toks := tk })
    (ends : i = n → ∀ g' tk e, (∀ c o, c ≠ z → c ≠ TO → c ≠ i1 → c ≠ i2 → s.heap.get? c = some o → g'.get? c = some o) → (∃ o, g'.get? e = some o ∧ o.cls = .type "StopIteration") → E (.ref e) { s with heap := g', toks := tk }) :
    wpAny (model prog w) A (Builtin.«zip.__next__» ⟨[.ref z], []⟩) (fun fin s' => ∃ v, fin = .done (.ret v) ∧ Q v s') E s := by
  obtain ⟨hp, gs, dr, tk0, os⟩ := s
  (show wpAny _ _ (field (.ref z) 2 >>= _) _ _ _); refine wpAny_bind (wpAny_field hz rfl (x := .bool true) rfl ?_)
  (show wpAny _ _ (field (.ref z) 3 >>= _) _ _ _); refine wpAny_bind (wpAny_field hz rfl (x := .ref TI) rfl (wpAny_bind (wpAny_seqItems hI rfl ?_)))
  (show wpAny _ _ (Builtin.SmallTypes.ownedTupleIsFree (.ref z) >>= _) _ _ _); refine wpAny_bind ?_; unfold Builtin.SmallTypes.ownedTupleIsFree
  refine wpAny_bind (wpAny_field hz rfl (x := .none) rfl (wpAny_pure ?_)); simp only [if_true]; refine wpAny_bind (wpAny_rule (wpAny_bind (wpAny_field hz rfl (x := .ref TO) rfl ?_)))
  refine wpAny_bind (wpAny_setField_rec hz (by simp) fun g0 hz0 k0 => ?_)
  replace hz0 : SZip g0 z TI TO .ellipsis := hz0; replace k0 : Heap.SameBut z hp g0 := k0
  refine wpAny_bind ?_; simp only [List.zipIdx_cons, List.zipIdx_nil, List.forIn_cons, List.forIn_nil]; refine wpAny_bind (wpAny_bind (wpAny_onRaise ?_))
  (show wpAny _ _ (Builtin.SmallTypes.nextOrEnd (.ref i1)) _ _ ⟨g0, gs, dr, tk0, os⟩)
  rcases Nat.lt_or_ge i n with lt | ge
  · refine draw_some Da lt (Da.over sa k0 S.zf1) fun x p1 tk1 hx sn1 k1 => ?_
    have u1 : IsTupOf2 p1 TO a b := k1.extBut _ _ S.Ti1 (k0.extBut _ _ S.TOz hO)
    refine wpAny_bind (wpAny_seqItems (s := ⟨p1, gs, dr, tk1, os⟩) u1 rfl (wpAny_bind (updateSeq_IsTupOf2 (s := ⟨p1, gs, dr, tk1, os⟩) u1 fun g1 t1 m1 => wpAny_bind (wpAny_letGo (wpAny_pure ?_)))))
    replace t1 : IsTupOf2 g1 TO x b := t1; replace m1 : Heap.SameBut TO p1 g1 := m1
    refine wpAny_bind (wpAny_bind (wpAny_onRaise ?_)); (show wpAny _ _ (Builtin.SmallTypes.nextOrEnd (.ref i2)) _ _ ⟨g1, gs, dr, tk1, os⟩)
    refine draw_some Db lt (Db.over (Db.over (Db.over sb k0 S.zf2) k1 S.sep1_2) m1 S.Tf2) fun y p2 tk2 hy sn2 k2 => ?_
    replace k2 : Heap.SameBut i2 g1 p2 := k2
    have u2 : IsTupOf2 p2 TO x b := k2.extBut _ _ S.Ti2 t1
    refine wpAny_bind (wpAny_seqItems (s := ⟨p2, gs, dr, tk2, os⟩) u2 rfl (wpAny_bind (updateSeq_IsTupOf2 (s := ⟨p2, gs, dr, tk2, os⟩) u2 fun g2 t2 m2 => wpAny_bind (wpAny_letGo (wpAny_pure (wpAny_pure ?_))))))
    replace t2 : IsTupOf2 g2 TO x y := t2; replace m2 : Heap.SameBut TO p2 g2 := m2
    refine wpAny_bind (wpAny_seqItems (s := ⟨g2, gs, dr, tk2, os⟩) t2 rfl (wpAny_bind (wpAny_newTuple ?_)))
    have size2 : g2.objs.size = hp.objs.size := by rw [m2.1, k2.1, m1.1, k1.1, k0.1]
    have zz : SZip g2 z TI TO .ellipsis := m2.extBut _ _ S.TOz.symm (k2.extBut _ _ S.zi2 (m1.extBut _ _ S.TOz.symm (k1.extBut _ _ S.zi1 hz0)))
    have stay : ∀ c o, c ≠ z → c ≠ TO → c ≠ i1 → c ≠ i2 → hp.get? c = some o → g2.get? c = some o := fun c o cz cT c1 c2 e => m2.extBut _ _ cT (k2.extBut _ _ c2 (m1.extBut _ _ cT (k1.extBut _ _ c1 (k0.extBut _ _ cz e))))
    have na : Sa (i + 1) g2 := Da.over (Da.over (Da.over sn1 m1 S.Tf1) k2 S.sep2_1) m2 S.Tf1
    have nb : Sb (i + 1) g2 := Db.over sn2 m2 S.Tf2
    have zl : z < g2.objs.size := Heap.lt_size zz
    (show wpAny _ _ (Builtin.SmallTypes.ownedTupleHandOut (.ref z) (.ref g2.objs.size) >>= _) _ _ ⟨g2.push { cls := .type "tuple", data := .seq #[x, y] }, gs, dr, tk2, os⟩); refine wpAny_bind ?_; unfold Builtin.SmallTypes.ownedTupleHandOut
    have z3 : SZip (g2.push { cls := .type "tuple", data := .seq #[x, y] }) z TI TO .ellipsis := Heap.get?_push_of_some _ zz
    refine wpAny_bind (wpAny_setField_rec z3 (by simp) fun g4 z4 k4 => ?_)
    replace z4 : SZip g4 z TI TO (rawInt g2.objs.size) := z4
    refine wpAny_setField_rec z4 (by simp) fun g5 z5 k5 => ?_
    replace z5 : SZip g5 z TI TO (rawInt g2.objs.size) := z5; replace k4 : Heap.SameBut z (g2.push { cls := .type "tuple", data := .seq #[x, y] }) g4 := k4; replace k5 : Heap.SameBut z g4 g5 := k5
    have up5 : ∀ c o, c ≠ z → g2.get? c = some o → g5.get? c = some o := fun c o cz e => k5.extBut _ _ cz (k4.extBut _ _ cz (Heap.get?_push_of_some _ e))
    have t5 : IsTupOf2 g5 g2.objs.size x y := k5.extBut _ _ (Nat.ne_of_gt zl) (k4.extBut _ _ (Nat.ne_of_gt zl) (Heap.get?_push_size _ rfl))
    have size5 : g5.objs.size = g2.objs.size + 1 := by rw [k5.1, k4.1, Heap.size_push]
    rw [size2] at z5 t5 size5
    refine wpAny_pure ⟨_, rfl, ?_⟩; (show Q (.ref g2.objs.size) ⟨g5, gs, dr, tk2, os⟩); rw [size2]
    exact goes lt x y g5 tk2 hx hy z5 (up5 _ _ S.TOz t2) (Da.frame _ _ _ na fun c hc o e => up5 c o (fun q => S.zf1 (q ▸ hc)) e) (Db.frame _ _ _ nb fun c hc o e => up5 c o (fun q => S.zf2 (q ▸ hc)) e) t5 size5 fun c o cz cT c1 c2 e => up5 c o cz (stay c o cz cT c1 c2 e)
  · have ei : i = n := Nat.le_antisymm le ge
    subst ei
    refine draw_none Da (Da.over sa k0 S.zf1) fun g1 x1 => ?_
    replace x1 : Heap.ExtBut i1 g0 g1 := x1
    have z1 : SZip g1 z TI TO .ellipsis := x1 _ _ S.zi1 hz0
    refine wpAny_bind (wpAny_setField_rec (s := ⟨g1, gs, dr, tk0, os⟩) z1 (by simp) fun g2 z2 k2 => ?_)
    replace k2 : Heap.SameBut z g1 g2 := k2
    refine wpAny_bind ?_
    (show wpAny _ _ (forIn _ _ _ >>= _) _ _ ⟨g2, gs, dr, tk0, os⟩)
    simp only [List.drop_succ_cons, List.drop_zero, List.zipIdx_cons, List.zipIdx_nil, List.forIn_cons, List.forIn_nil]
    refine wpAny_bind (wpAny_bind (wpAny_bind (draw_none Db (s := ⟨g2, gs, dr, tk0, os⟩) (Db.frame _ _ _ sb fun c hc o e => ?_) fun g3 x3 => ?_)))
    · have cz : c ≠ z := fun q => S.zf2 (q ▸ hc)
      exact k2.extBut _ _ cz (x1 _ _ (fun q => S.sep1_2 (q ▸ hc)) (k0.extBut _ _ cz e))
    simp only [Option.isSome_none, Bool.false_eq_true, if_false]
    refine wpAny_pure (wpAny_pure (wpAny_bind (wpAny_rule (stop_raised (s := ⟨g3, gs, dr, tk0, os⟩) hh fun g4 e x4 he => ?_))))
    exact ends rfl g4 tk0 e (fun c o cz _ c1 c2 q => x4 _ _ (x3 _ _ c2 (k2.extBut _ _ cz (x1 _ _ c1 (k0.extBut _ _ cz q))))) he
theorem sz_type {z TI TO : Addr} {f0 : Value} (hz : SZip s.heap z TI TO f0) : s.TypeIs (.ref z) "zip" := ⟨_, hz, rfl⟩
theorem zs_pyNext (hh : A.handled = none) {z TI TO i1 i2 : Addr} {fp1 fp2 : List Addr} {n i : Nat} {Pa Pb : Nat → Value → Prop} {Sa Sb : Nat → Heap → Prop} {a b : Value} {Q : Option Value → Shared → Prop} (S : ZipSep2 z TI TO i1 i2 fp1 fp2)
    (Da : Draws prog w A.in1 i1 fp1 n Pa Sa) (Db : Draws prog w A.in1 i2 fp2 n Pb Sb) (hz : SZip s.heap z TI TO .none) (hI : IsTupOf2 s.heap TI (.ref i1) (.ref i2)) (hO : IsTupOf2 s.heap TO a b) (sa : Sa i s.heap) (sb : Sb i s.heap) (le : i ≤ n)
    (goes : i < n → ∀ x y g' tk, Pa i x → Pb i y → SZip g' z TI TO (rawInt s.heap.objs.size) → IsTupOf2 g' TO x y → Sa (i + 1) g' → Sb (i + 1) g' → IsTupOf2 g' s.heap.objs.size x y → g'.objs.size = s.heap.objs.size + 1 →
      (∀ c o, c ≠ z → c ≠ TO → c ≠ i1 → c ≠ i2 → s.heap.get? c = some o → g'.get? c = some o) → Q (some (.ref s.heap.objs.size)) { s with heap := g', toks := tk })
    (ends : i = n → ∀ g' tk, (∀ c o, c ≠ z → c ≠ TO → c ≠ i1 → c ≠ i2 → s.heap.get? c = some o → g'.get? c = some o) → Q none { s with heap := g', toks := tk }) :
    wpAny (model prog w) A (pyNext (.ref z)) Q E s := by
  unfold pyNext
  refine wpAny_bind (wpAny_attempt (wpAny_callSpecial?_slot (name := Str.ofString "__next__") (sz_type hz) F.slot_zip_next (wpAny_call_entry F.slot_zip_next (sz_type hz) F.entry_zip_next (zs_next (A := A.in1) (show A.in1.handled = none from hh) S Da Db hz hI hO sa sb le (fun lt x y g' tk p1 p2 p3 p4 p5 p6 p7 p8 p9 => wpAny_pure (goes lt x y g' tk p1 p2 p3 p4 p5 p6 p7 p8 p9)) fun e1 g' tk e k he => ?_) (F.args_zip_next_1 _))))
  obtain ⟨o, ho, hc⟩ := he
  exact wpAny_bind (wpAny_isInstance (T := "StopIteration") (b := true) ⟨o, ho, hc⟩ isSubtype_stop (wpAny_pure (ends e1 g' tk k)))
theorem zs_go {elts : List Expr} {k1} {pos : Pos} {z TI TO T : Addr} {Q : Unit → Shared → Prop} (hz : SZip s.heap z TI TO (rawInt T)) (go : ∀ g', SZip g' z TI TO .none → Heap.SameBut z s.heap g' → Q () { s with heap := g' }) :
    wpAny (model prog w) A (letOwnedTupleGo (.Tuple elts k1 pos) (.ref z) (.ref T)) Q E s := by
  unfold letOwnedTupleGo
  refine wpAny_bind (wpAny_load hz ?_)
  show wpAny _ _ (if (["enumerate", "zip", "dict_itemiterator", "dict_reverseitemiterator", "odict_iterator", "itertools.zip_longest", "itertools.pairwise"].contains "zip" && (#[rawInt T, .bool false, .bool true, .ref TI, .ref TO] : Array Value)[0]? == some (rawInt T)) = true then _ else _) Q E s
  rw [if_pos (by simp)]; refine wpAny_bind (wpAny_rule ?_); (show wpAny _ _ (setField (.ref z) 0 .none) Q E s)
  exact wpAny_setField_rec hz (by simp) fun g' z' k' => go g' z' k'
theorem zs_iter {z TI TO : Addr} {f0 : Value} {Q : Value → Shared → Prop} (hz : SZip s.heap z TI TO f0) (go : Q (.ref z) s) : wpAny (model prog w) A (pyIter (.ref z)) Q E s := by
  refine wpAny_pyIter_slot (sz_type hz) F.slot_zip_iter (wpAny_call_entry F.slot_zip_iter (sz_type hz) F.entry_zip_iter ?_ (F.args_zip_iter_1 _))
  (show wpAny _ _ (ret (.ref z)) _ _ s); exact wpAny_pure ⟨_, rfl, "zip", _, sz_type hz, F.slot_zip_next.lookup, go⟩
end
end My

namespace My
open PySem PySem.Spec PyProof.Rows L2 Pre
open Sem (wp)
theorem zs_tc (a b : Value) : checkTypeCall "zip" ⟨[a, b], [("strict", .bool true)]⟩ = pure () := by kernel_rfl
theorem zs_nc (a b : Value) : checkBuiltinCall "zip.__new__" ⟨[.type "zip", a, b], [("strict", .bool true)]⟩ = pure () := by kernel_rfl
theorem zs_ao (a b c : Value) : argsOk "object.__init__" ⟨[a, b, c], [("strict", .bool true)]⟩ := by
  unfold argsOk; rw [signature?_of (id := "object.__init__") (n := ['_', '_', 't', 'i', 'n', 'i', '_', '_']) (o := ['t', 'c', 'e', 'j', 'b', 'o']) (by kernel_rfl) PySem.F.owner_object]; kernel_rfl
section
variable {prog : Program} {w : World} {A : Around} {E : Value → Shared → Prop} {s : Shared}
theorem zs_init (v a b : Value) : Meets (Builtin.«object.__init__» ⟨[v, a, b], [("strict", .bool true)]⟩) (fun _ R s => s.TypeIs v "zip" ∧ R (.ok (.ret .none)) s) := by
  refine Meets.of_wp fun prog w A R s hs => ?_
  obtain ⟨hT, hq⟩ := hs; have hl := PySem.F.called_zip.init.lookup; have hm := PySem.F.called_zip.made
  repeat (any_goals (first | assumption | wp_step))
  exact ⟨_, rfl, hq⟩
theorem zs_call {a b : Value} {S : PySem.Spec} {Q : Value → Shared → Prop} (g : Meets (Builtin.«zip.__new__» ⟨[.type "zip", a, b], [("strict", .bool true)]⟩) S) (h : S A.in1 (wants (fun v s' => s'.TypeIs v "zip" ∧ Q v s') E) s) :
    wpAny (model prog w) A (call (.type "zip") [a, b] [("strict", .bool true)]) Q E s := by
  have ft := PySem.F.called_zip
  obtain ⟨c, tl, hmro⟩ := ft.mro
  have hmade := ft.made
  have hsub := ft.sub
  refine wpAny_call (codeAny_of_tree ?_)
  show wpAny _ _ (callAny (.type "zip") _) _ _ _
  refine wpAny_pure ⟨Code.quiet_builtin _ (by decide +kernel), codeAny_builtin PySem.F.entry_type_call ?_⟩
  rw [Around.under_plain (weight_type_call_type "zip" [a, b] [("strict", .bool true)]) (units_type_call_type "zip" [a, b] [("strict", .bool true)])]
  have h1 := ft.notType
  have h2 := ft.canCreate
  have htc := zs_tc a b
  repeat (any_goals (first | assumption | wp_step))
  refine codeAny_mono (codeAny_call_builtin ft.plain PySem.F.entry_zip_new (wpAny_of_eq (zs_nc a b) (g prog w A.in1 _ s h))) fun r s₁ hr => ?_
  cases r with
  | error e => exact hr
  | ok fl =>
    cases fl with
    | ret obj =>
      obtain ⟨hT, hq⟩ := hr
      have hli := ft.init.lookup
      have hbi := ft.init.bind obj
      repeat (any_goals (first | assumption | wp_step))
      refine codeAny_mono (codeAny_call_builtin ft.init.plain PySem.F.entry_object_init (ft.init.check _ _ _ _ _ _ _ _ hT (zs_ao obj a b) (zs_init obj a b prog w A.in1 _ s₁ (show (fun (_ : Around) (R : Except Value Flow → Shared → Prop) (s : Shared) => s.TypeIs obj "zip" ∧ R (.ok (.ret .none)) s) A.in1 (wants (fun r s₂ => r = .none ∧ Q obj s₂) E) s₁ from ⟨hT, rfl, hq⟩)))) fun r₂ s₂ hr₂ => ?_
      cases r₂ with
      | error e => exact hr₂
      | ok fl₂ =>
        cases fl₂ with
        | ret r =>
          obtain ⟨rfl, hq⟩ := hr₂
          repeat (any_goals (first | assumption | wp_step))
        | _ => exact hr₂.elim
    | _ => exact hr.elim
end
abbrev zq1 (h : Heap) (a : Addr) : Heap := h.push { cls := .type "tuple_iterator", data := .fields #[.ref a, .int 0 0] }
abbrev zq2 (h : Heap) (a b : Addr) : Heap := (zq1 h a).push { cls := .type "list_iterator", data := .fields #[.ref b, .int 0 0] }
abbrev zq3 (h : Heap) (a b : Addr) : Heap := (zq2 h a b).push { cls := .type "tuple", data := .seq #[.ref h.objs.size, .ref (zq1 h a).objs.size] }
abbrev zq4 (h : Heap) (a b : Addr) : Heap := (zq3 h a b).push { cls := .type "tuple", data := .seq #[.none, .none] }
abbrev zq5 (h : Heap) (a b : Addr) : Heap := (zq4 h a b).push { cls := .type "zip", data := .fields #[.none, .bool false, .bool true, .ref (zq2 h a b).objs.size, .ref (zq3 h a b).objs.size] }
theorem zs_new (a b : Addr) (xs ys : Array Value) :
    Meets (Builtin.«zip.__new__» ⟨[.type "zip", .ref a, .ref b], [("strict", .bool true)]⟩) (fun _ R s => s.heap.IsTuple a xs ∧ s.heap.IsList b ys ∧
      R (.ok (.ret (.ref (zq4 s.heap a b).objs.size))) { s with heap := zq5 s.heap a b }) :=
  .of_wp fun prog w A R s h => by
    obtain ⟨hp, g, d, tk, os⟩ := s; obtain ⟨ha, hb, h⟩ := h; have hsub := sub_zip
    have hA : Heap.IsTuple (Shared.heap ⟨hp, g, d, tk, os⟩) a xs := ha; have hB : Heap.IsList (Shared.heap ⟨hp.push { cls := .type "tuple_iterator", data := .fields #[.ref a, .int 0 0] }, g, d, tk, os⟩) b ys := Heap.IsList.push hb _
    wp_walk using wpAny_pyIter_tuple hA, wpAny_pyIter_list hB
    exact ⟨_, rfl, h⟩
end My

namespace My
open PySem PySem.Spec PyProof.Rows L2 Pre
open Sem (wp)
section
variable {prog : Program} {w : World} {A : Around} {E : Value → Shared → Prop} {s : Shared}
theorem zs_made {a b : Addr} {xs ys : Array Value} {Q : Value → Shared → Prop} (ha : s.heap.IsTuple a xs) (hb : s.heap.IsList b ys)
    (go : ∀ g', SZip g' (s.heap.objs.size + 4) (s.heap.objs.size + 2) (s.heap.objs.size + 3) .none → IsTupOf2 g' (s.heap.objs.size + 2) (.ref s.heap.objs.size) (.ref (s.heap.objs.size + 1)) → IsTupOf2 g' (s.heap.objs.size + 3) .none .none →
      g'.IsTupleIter s.heap.objs.size a 0 → g'.IsListIter (s.heap.objs.size + 1) b 0 → (∀ c o, s.heap.get? c = some o → g'.get? c = some o) → Q (.ref (s.heap.objs.size + 4)) { s with heap := g' }) :
    wpAny (model prog w) A (call (.type "zip") [.ref a, .ref b] [("strict", .bool true)]) Q E s := by
  refine zs_call (zs_new a b xs ys) ⟨ha, hb, ?_⟩
  have n1 : (zq1 s.heap a).objs.size = s.heap.objs.size + 1 := Heap.size_push ..
  have n2 : (zq2 s.heap a b).objs.size = s.heap.objs.size + 2 := by rw [Heap.size_push, n1]
  have n3 : (zq3 s.heap a b).objs.size = s.heap.objs.size + 3 := by rw [Heap.size_push, n2]
  have n4 : (zq4 s.heap a b).objs.size = s.heap.objs.size + 4 := by rw [Heap.size_push, n3]
  have p : ∀ {h : Heap} {o o' : Obj} {c : Addr}, h.get? c = some o → (h.push o').get? c = some o := fun e => Heap.get?_push_of_some _ e
  have q5 : (zq5 s.heap a b).get? (zq4 s.heap a b).objs.size = some _ := Heap.get?_push_size _ rfl
  have q4 : (zq5 s.heap a b).get? (zq3 s.heap a b).objs.size = some _ := p (Heap.get?_push_size _ rfl)
  have q3 : (zq5 s.heap a b).get? (zq2 s.heap a b).objs.size = some _ := p (p (Heap.get?_push_size _ rfl))
  have q2 : (zq5 s.heap a b).get? (zq1 s.heap a).objs.size = some _ := p (p (p (Heap.get?_push_size _ rfl)))
  have q1 : (zq5 s.heap a b).get? s.heap.objs.size = some _ := p (p (p (p (Heap.get?_push_size _ rfl))))
  show _ ∧ _; rw [n2, n3, n4] at q5; rw [n1, n2] at q3; rw [n3] at q4; rw [n1] at q2; rw [n4]
  exact ⟨⟨_, q5, rfl⟩, go _ q5 q3 q4 ⟨_, q1, rfl, rfl⟩ ⟨_, q2, rfl, rfl⟩ fun c o x => p (p (p (p (p x))))⟩
end
/-- the tuple at a and the list at b, of one length, side by side -/
def ItzS (K : PySem.W.Frag) (a b : Addr) : It :=
  ⟨fun i H => ∃ (xs ys : List V), SqT K H a xs ∧ SqL K H b ys ∧ xs.length = ys.length ∧ i < xs.length,
    fun i H v H' => ∃ T x y, v = .ref T ∧ H T = none ∧ H' = upd H T (.tup [x, y]) ∧ (∀ xs, SqT K H a xs → xs[i]? = some x) ∧ ∀ ys, SqL K H b ys → ys[i]? = some y,
    fun i H => ∃ xs ys : List V, SqT K H a xs ∧ SqL K H b ys ∧ xs.length = i ∧ ys.length = i⟩
theorem turn_zs {P : Program} {w : World} {K : PySem.W.Frag} {elts : List Expr} {kk : Nat} {tpos : Pos} {a b z TI TO i1 i2 : Addr} (D : ZipApart z TI TO i1 i2 a b) :
    Turn P w K (.Tuple elts kk tpos) (ItzS K a b) [z, TI, TO, i1, i2] z (fun i h => SZip h z TI TO .none ∧ IsTupOf2 h TI (.ref i1) (.ref i2) ∧ (∃ x y, IsTupOf2 h TO x y) ∧ h.IsTupleIter i1 a i ∧ h.IsListIter i2 b i) := by
  have Sp : ZipSep2 z TI TO i1 i2 [i1, a] [i2, b] := ⟨D.TIz, D.TOz, D.TITO, D.TIi1, by simp, by simp [D.i1z.symm, D.l1z.symm], by simp [D.TOi1, D.l1TO.symm], D.TIi2, by simp, by simp [D.i2z.symm, D.l2z.symm], by simp [D.TOi2, D.l2TO.symm], by simp [D.i12, D.l2i1.symm], by simp [D.i12.symm, D.l1i2.symm]⟩
  refine ⟨by simp, fun i h st c hc => ?_, fun i h h' st k => ?_, ?_, ?_, fun A i s Q E st h => zs_iter st.1 h⟩
  · obtain ⟨hz, hTI, ⟨x, y, hTO⟩, ⟨o1, e1, _, d1⟩, ⟨o2, e2, _, d2⟩⟩ := st
    have e' : c = z ∨ c = TI ∨ c = TO ∨ c = i1 ∨ c = i2 := by simpa using hc
    rcases e' with q | q | q | q | q <;> rw [q]
    · exact ⟨_, hz, fun v q => nomatch q⟩
    · exact ⟨_, hTI, fun v q => nomatch q⟩
    · exact ⟨_, hTO, fun v q => nomatch q⟩
    · exact ⟨o1, e1, fun v q => by rw [d1] at q; cases q⟩
    · exact ⟨o2, e2, fun v q => by rw [d2] at q; cases q⟩
  · obtain ⟨hz, hTI, ⟨x, y, hTO⟩, h1, h2⟩ := st
    have kz := k z (by simp); have kI := k TI (by simp); have kO := k TO (by simp)
    exact ⟨kz _ hz, kI _ hTI, ⟨x, y, kO _ hTO⟩, h1.at fun o q => k i1 (by simp) o q, h2.at fun o q => k i2 (by simp) o q⟩
  · intro X hP hw hK hc i pins s σ H E I hf st hg
    subst hP; subst hw; subst hK
    obtain ⟨hz, hTI, ⟨x0, y0, hTO⟩, h1, h2⟩ := st; obtain ⟨xs, ys, hqx, hqy, hl, hi⟩ := hg
    obtain ⟨its, rv, p, _⟩ := I.tuple hqx; obtain ⟨its2, rv2, p2, _⟩ := I.list hqy
    have l1 := rv.length; have l2 := rv2.length
    have hzl : z < s.heap.objs.size := Heap.lt_size hz
    have hh : X.A.handled = none := I.ok.hd hc
    have Da := Draws.tuple (prog := X.prog) (w := X.w) (A := X.A.in1) (show X.A.in1.handled = none from hh) i1 a D.l1i1 its.toArray
    have Db0 := Draws.list (prog := X.prog) (w := X.w) (A := X.A.in1) (show X.A.in1.handled = none from hh) i2 b D.l2i2 its2.toArray
    have esz : its2.toArray.size = its.toArray.size := by simp; omega
    have Db : Draws X.prog X.w X.A.in1 i2 [i2, b] its.toArray.size (fun j v => its2.toArray[j]? = some v) (fun j h => h.IsListIter i2 b j ∧ h.IsList b its2.toArray) := by rw [← esz]; exact Db0
    have hin : i < its.toArray.size := by simp; omega
    refine zs_pyNext (s := s) hh Sp Da Db hz hTI hTO ⟨h1, p⟩ ⟨h2, p2.isList⟩ (Nat.le_of_lt hin) (fun _ u u2 h' tk px py z' TO' sa' sb' hT hsz hk => ?_) (fun e => absurd e (Nat.ne_of_lt hin))
    have hu : its[i]? = some u := by simpa using px
    have hu2 : its2[i]? = some u2 := by simpa using py
    obtain ⟨x, hx⟩ : ∃ x, xs[i]? = some x := ⟨_, List.getElem?_eq_getElem hi⟩
    obtain ⟨y, hy⟩ : ∃ y, ys[i]? = some y := ⟨_, List.getElem?_eq_getElem (hl ▸ hi)⟩
    obtain ⟨u', hu', ru⟩ := rv.get hx; obtain ⟨u2', hu2', ru2⟩ := rv2.get hy
    rw [hu] at hu'; cases hu'; rw [hu2] at hu2'; cases hu2'
    refine ⟨_, rfl, zs_go (s := { s with heap := h', toks := tk }) z' fun h'' z'' sb => ?_⟩
    have hT2 : h''.get? s.heap.objs.size = some { cls := .type "tuple", data := .seq #[u, u2] } := (sb.2 _ (Nat.ne_of_gt hzl)).trans hT
    have new : ObjOk X.prog X.w (upd H s.heap.objs.size (.tup [x, y])) h'' s.heap.objs.size (.tup [x, y]) := ⟨by show 2 ≤ sizeLine; decide, [u, u2], .cons ru (.cons ru2 .nil), ⟨_, hT2, rfl, _, rfl⟩⟩
    have I1 : Inv X pins σ (upd H s.heap.objs.size (.tup [x, y])) { s with heap := h'', toks := tk } :=
      I.turnedNew (t' := tk) (ch := [z, TI, TO, i1, i2]) (fun c o hb q => (sb.2 c (fun q' => hb (by simp [q']))).trans (hk c o (fun q' => hb (by simp [q'])) (fun q' => hb (by simp [q'])) (fun q' => hb (by simp [q'])) (fun q' => hb (by simp [q'])) q)) hf (Nat.le_refl _) new
    refine ⟨.ref s.heap.objs.size, _, I1, rfl, ⟨_, x, y, rfl, I.hok.fresh (Nat.le_refl _), rfl, fun l hl => by rw [I.tuple_inj hl hqx]; exact hx, fun l hl => by rw [I.list_inj hl hqy]; exact hy⟩, ⟨z'', (sb.2 _ D.TIz).trans (hk _ _ D.TIz D.TITO D.TIi1 D.TIi2 hTI), ⟨u, u2, (sb.2 _ D.TOz).trans TO'⟩, sa'.1.at fun o q => (sb.2 _ D.i1z).trans q, sb'.1.at fun o q => (sb.2 _ D.i2z).trans q⟩, fun c hcm => ?_⟩
    have hlt : c < s.heap.objs.size := by
      have e' : c = z ∨ c = TI ∨ c = TO ∨ c = i1 ∨ c = i2 := by simpa using hcm
      rcases e' with q | q | q | q | q <;> rw [q]
      · exact hzl
      · exact Heap.lt_size hTI
      · exact Heap.lt_size hTO
      · obtain ⟨_, e1, _⟩ := h1; exact Heap.lt_size e1
      · obtain ⟨_, e2, _⟩ := h2; exact Heap.lt_size e2
    rw [upd_ne (Nat.ne_of_lt hlt)]; exact (hf c hcm).1
  · intro X hP hw hK hc i pins s σ H E I hf st hg
    subst hP; subst hw; subst hK
    obtain ⟨hz, hTI, ⟨x0, y0, hTO⟩, h1, h2⟩ := st; obtain ⟨xs, ys, hqx, hqy, hl, hl2⟩ := hg
    obtain ⟨its, rv, p, _⟩ := I.tuple hqx; obtain ⟨its2, rv2, p2, _⟩ := I.list hqy
    have l1 := rv.length; have l2 := rv2.length
    have hh : X.A.handled = none := I.ok.hd hc
    have Da := Draws.tuple (prog := X.prog) (w := X.w) (A := X.A.in1) (show X.A.in1.handled = none from hh) i1 a D.l1i1 its.toArray
    have Db0 := Draws.list (prog := X.prog) (w := X.w) (A := X.A.in1) (show X.A.in1.handled = none from hh) i2 b D.l2i2 its2.toArray
    have esz : its2.toArray.size = its.toArray.size := by simp; omega
    have Db : Draws X.prog X.w X.A.in1 i2 [i2, b] its.toArray.size (fun j v => its2.toArray[j]? = some v) (fun j h => h.IsListIter i2 b j ∧ h.IsList b its2.toArray) := by rw [← esz]; exact Db0
    have hin : i = its.toArray.size := by simp; omega
    refine zs_pyNext (s := s) hh Sp Da Db hz hTI hTO ⟨h1, p⟩ ⟨h2, p2.isList⟩ (Nat.le_of_eq hin) (fun lt => absurd hin (Nat.ne_of_lt lt)) (fun _ h' tk hk => ⟨rfl, I.turnedL (t' := tk) (ch := [z, TI, TO, i1, i2]) (fun c o hb q => hk c o (fun q' => hb (by simp [q'])) (fun q' => hb (by simp [q'])) (fun q' => hb (by simp [q'])) (fun q' => hb (by simp [q'])) q) hf⟩)
section
variable {M : Model} {A : Around} {E : Value → Shared → Prop} {s : Shared} {env : Env}
theorem tykw {pos : Pos} {T : String} {e : Expr} {rest : List Expr} {kws : List Keyword} {Q : Value → Shared → Prop}
    (h : wpAny M A (spliced (backTo pos (starEach (e :: rest) env))) (fun vs s1 => wpAny M A (evalAll ((backToKw pos (keywordEach kws env)).map (·.2))) (fun ws s2 => wpAny M A (call (.type T) vs (((backToKw pos (keywordEach kws env)).filterMap (·.1)).zip ws)) Q E s2) E s1) E s)
    (he : backTo pos (starEach (e :: rest) env) = (false, eval e env) :: backTo pos (starEach rest env) := by rfl) (hp : (backTo pos (starEach (e :: rest) env)).any (·.1) = false := by rfl)
    (ha : (backToKw pos (keywordEach kws env)).all (·.1.isSome) = true := by rfl) (hk : (backToKw pos (keywordEach kws env)).any (·.1.isNone) = false := by rfl) : wpAny M A (callWith pos (.type T) [] (backTo pos (starEach (e :: rest) env)) (backToKw pos (keywordEach kws env))) Q E s := by
  unfold callWith
  refine wpAny_bind (wpAny_holding (wpAny_mono (Q := fun a s1 => wpAny M A (call (.type T) ([] ++ a.pos) a.kw) Q E s1) ?_ (fun a s1 h1 => wpAny_bind (wpAny_standAt ?_)) fun _ _ z => z))
  · rw [he] at h ⊢; exact evalArgs_kwB ha h
  · simp only [hp, hk, Bool.or_false]; refine wpAny_bind (wpAny_pure ?_)
    exact wpAny_bind (wpAny_mono h1 (fun r s2 hr => wpAny_bind (wpAny_holding (wpAny_point (wpAny_pure hr)))) fun _ _ z => z)
end
def iZipS (K : PySem.W.Frag) (ta tk : TA) : TI := fun σ H R => ta σ H fun vs H1 => tk σ H1 fun zs H2 => zs = [.bl true] ∧ ∃ a b xs ys, vs = [.ref a, .ref b] ∧ SqT K H2 a xs ∧ SqL K H2 b ys ∧ R (ItzS K a b) H2
theorem pi_zs {X : Cx} {e e2 : Expr} {kws : List Keyword} {ta tk : TA} {p pos tpos : Pos} {elts : List Expr} {kk : Nat} (hg : Gl X "zip") (hm : X.mg "zip" = none) (ha : PA X [e, e2] ta) (hk : PK X kws tk)
    (he : backTo pos (starEach [e, e2] X.env) = (false, eval e X.env) :: backTo pos (starEach [e2] X.env) := by rfl) (hp : (backTo pos (starEach [e, e2] X.env)).any (·.1) = false := by rfl)
    (hal : (backToKw pos (keywordEach kws X.env)).all (·.1.isSome) = true := by rfl) (hkn : (backToKw pos (keywordEach kws X.env)).any (·.1.isNone) = false := by rfl) (hks : (backToKw pos (keywordEach kws X.env)).filterMap (·.1) = [("strict" : Str)] := by rfl) :
    PI X (.Tuple elts kk tpos) (.Call (.Name "zip" p) [e, e2] kws pos) (iZipS X.K ta tk) := by
  refine ⟨fun pins s σ H R I h => wpAny_Call_Name_kw (ld_blt I hg hm PyProof.Rows.boot_zip (tykw (thn (ha.run pos pins s σ H _ I h) fun us s1 ⟨vs, H1, I1, r1, q1⟩ => thn (hk.run pos pins s1 σ H1 _ I1 q1) fun ws s2 ⟨zs, H2, I2, r2, q2⟩ => ?_) he hp hal hkn))⟩
  rw [hks]; obtain ⟨ez, a, b, xs, ys, ex, hqx, hqy, q⟩ := q2
  subst ez; subst ex
  cases r2 with
  | cons rb rr => cases rr; cases (show _ = Value.bool true from rb); cases r1 with
    | cons r rr => cases rr with
      | cons r' rr =>
        cases rr; cases r; cases r'
        obtain ⟨its, rv, p1, _⟩ := I2.tuple hqx; obtain ⟨its2, rv2, p2, _⟩ := I2.list hqy
        refine zs_made p1 p2.isList fun g' hz hTI hTO h1 h2 hk' => zs_iter hz ?_
        have I3 : Inv X pins σ H2 { s2 with heap := g' } := I2.kept (t' := s2.toks) hk'
        obtain ⟨o1, ho1, _⟩ := id p1
        refine ⟨s2.heap.objs.size + 4, [s2.heap.objs.size + 4, s2.heap.objs.size + 2, s2.heap.objs.size + 3, s2.heap.objs.size, s2.heap.objs.size + 1], _, _, H2, rfl, I3, turn_zs (PySem.W.ktu_apart s2.heap.objs.size a b (Heap.lt_size ho1) p2.lt), ⟨hz, hTI, ⟨_, _, hTO⟩, h1, h2⟩, fun c hcm => ?_, q⟩
        have hle : s2.heap.objs.size ≤ c := by
          have e' : c = s2.heap.objs.size + 4 ∨ c = s2.heap.objs.size + 2 ∨ c = s2.heap.objs.size + 3 ∨ c = s2.heap.objs.size ∨ c = s2.heap.objs.size + 1 := by simpa using hcm
          rcases e' with z | z | z | z | z <;> rw [z] <;> first | exact Nat.le_add_right _ _ | exact Nat.le_refl _
        exact I2.fpOk hle (I2.hok.fresh hle)
theorem walk_zs {K : PySem.W.Frag} {a b : Addr} {xs ys : List V} (hl : xs.length = ys.length) : Walk (ItzS K a b) xs.length (fun H => SqT K H a xs ∧ SqL K H b ys) (YPair (fun i => xs[i]?) (fun i => ys[i]?)) :=
  ⟨fun i _ hi q => ⟨xs, ys, q.1, q.2, hl, hi⟩, fun _ q => ⟨xs, ys, q.1, q.2, rfl, hl.symm⟩, fun i H v H' _ q ⟨T, x, z, h1, h2, h3, h4, h5⟩ => ⟨T, x, z, h1, h2, h3, h4 xs q.1, h5 ys q.2⟩⟩
theorem k_piZS {X : Cx} (K : PySem.W.Frag) (h : X.K = K) {e e2 : Expr} {kws : List Keyword} {ta tk : TA} {p pos tpos : Pos} {elts : List Expr} {kk : Nat} (hg : Gl X "zip") (hm : X.mg "zip" = none) (ha : PA X [e, e2] ta) (hk : PK X kws tk)
    (he : backTo pos (starEach [e, e2] X.env) = (false, eval e X.env) :: backTo pos (starEach [e2] X.env) := by rfl) (hp : (backTo pos (starEach [e, e2] X.env)).any (·.1) = false := by rfl)
    (hal : (backToKw pos (keywordEach kws X.env)).all (·.1.isSome) = true := by rfl) (hkn : (backToKw pos (keywordEach kws X.env)).any (·.1.isNone) = false := by rfl) (hks : (backToKw pos (keywordEach kws X.env)).filterMap (·.1) = [("strict" : Str)] := by rfl) :
    PI X (.Tuple elts kk tpos) (.Call (.Name "zip" p) [e, e2] kws pos) (iZipS K ta tk) := by subst h; exact pi_zs hg hm ha hk he hp hal hkn hks
end My

namespace My
open PySem PySem.Spec PyProof.Rows L2 Pre
open Sem (wp)
/-! ### zip(xs, ys, strict=True) of two lists -/
abbrev zr1 (h : Heap) (a : Addr) : Heap := h.push { cls := .type "list_iterator", data := .fields #[.ref a, .int 0 0] }
abbrev zr2 (h : Heap) (a b : Addr) : Heap := (zr1 h a).push { cls := .type "list_iterator", data := .fields #[.ref b, .int 0 0] }
abbrev zr3 (h : Heap) (a b : Addr) : Heap := (zr2 h a b).push { cls := .type "tuple", data := .seq #[.ref h.objs.size, .ref (zr1 h a).objs.size] }
abbrev zr4 (h : Heap) (a b : Addr) : Heap := (zr3 h a b).push { cls := .type "tuple", data := .seq #[.none, .none] }
abbrev zr5 (h : Heap) (a b : Addr) : Heap := (zr4 h a b).push { cls := .type "zip", data := .fields #[.none, .bool false, .bool true, .ref (zr2 h a b).objs.size, .ref (zr3 h a b).objs.size] }
theorem zl_new (a b : Addr) (xs ys : Array Value) :
    Meets (Builtin.«zip.__new__» ⟨[.type "zip", .ref a, .ref b], [("strict", .bool true)]⟩) (fun _ R s => s.heap.IsList a xs ∧ s.heap.IsList b ys ∧
      R (.ok (.ret (.ref (zr4 s.heap a b).objs.size))) { s with heap := zr5 s.heap a b }) :=
  .of_wp fun prog w A R s h => by
    obtain ⟨hp, g, d, tk, os⟩ := s; obtain ⟨ha, hb, h⟩ := h; have hsub := sub_zip
    have hA : Heap.IsList (Shared.heap ⟨hp, g, d, tk, os⟩) a xs := ha; have hB : Heap.IsList (Shared.heap ⟨hp.push { cls := .type "list_iterator", data := .fields #[.ref a, .int 0 0] }, g, d, tk, os⟩) b ys := Heap.IsList.push hb _
    wp_walk using wpAny_pyIter_list hA, wpAny_pyIter_list hB
    exact ⟨_, rfl, h⟩
section
variable {prog : Program} {w : World} {A : Around} {E : Value → Shared → Prop} {s : Shared}
theorem zl_made {a b : Addr} {xs ys : Array Value} {Q : Value → Shared → Prop} (ha : s.heap.IsList a xs) (hb : s.heap.IsList b ys)
    (go : ∀ g', SZip g' (s.heap.objs.size + 4) (s.heap.objs.size + 2) (s.heap.objs.size + 3) .none → IsTupOf2 g' (s.heap.objs.size + 2) (.ref s.heap.objs.size) (.ref (s.heap.objs.size + 1)) → IsTupOf2 g' (s.heap.objs.size + 3) .none .none →
      g'.IsListIter s.heap.objs.size a 0 → g'.IsListIter (s.heap.objs.size + 1) b 0 → (∀ c o, s.heap.get? c = some o → g'.get? c = some o) → Q (.ref (s.heap.objs.size + 4)) { s with heap := g' }) :
    wpAny (model prog w) A (call (.type "zip") [.ref a, .ref b] [("strict", .bool true)]) Q E s := by
  refine zs_call (zl_new a b xs ys) ⟨ha, hb, ?_⟩
  have n1 : (zr1 s.heap a).objs.size = s.heap.objs.size + 1 := Heap.size_push ..
  have n2 : (zr2 s.heap a b).objs.size = s.heap.objs.size + 2 := by rw [Heap.size_push, n1]
  have n3 : (zr3 s.heap a b).objs.size = s.heap.objs.size + 3 := by rw [Heap.size_push, n2]
  have n4 : (zr4 s.heap a b).objs.size = s.heap.objs.size + 4 := by rw [Heap.size_push, n3]
  have p : ∀ {h : Heap} {o o' : Obj} {c : Addr}, h.get? c = some o → (h.push o').get? c = some o := fun e => Heap.get?_push_of_some _ e
  have q5 : (zr5 s.heap a b).get? (zr4 s.heap a b).objs.size = some _ := Heap.get?_push_size _ rfl
  have q4 : (zr5 s.heap a b).get? (zr3 s.heap a b).objs.size = some _ := p (Heap.get?_push_size _ rfl)
  have q3 : (zr5 s.heap a b).get? (zr2 s.heap a b).objs.size = some _ := p (p (Heap.get?_push_size _ rfl))
  have q2 : (zr5 s.heap a b).get? (zr1 s.heap a).objs.size = some _ := p (p (p (Heap.get?_push_size _ rfl)))
  have q1 : (zr5 s.heap a b).get? s.heap.objs.size = some _ := p (p (p (p (Heap.get?_push_size _ rfl))))
  show _ ∧ _; rw [n2, n3, n4] at q5; rw [n1, n2] at q3; rw [n3] at q4; rw [n1] at q2; rw [n4]
  exact ⟨⟨_, q5, rfl⟩, go _ q5 q3 q4 ⟨_, q1, rfl, rfl⟩ ⟨_, q2, rfl, rfl⟩ fun c o x => p (p (p (p (p x))))⟩
end
/-- the lists at a and b, of one length, side by side -/
def ItzL (K : PySem.W.Frag) (a b : Addr) : It :=
  ⟨fun i H => ∃ (xs ys : List V), SqL K H a xs ∧ SqL K H b ys ∧ xs.length = ys.length ∧ i < xs.length,
    fun i H v H' => ∃ T x y, v = .ref T ∧ H T = none ∧ H' = upd H T (.tup [x, y]) ∧ (∀ xs, SqL K H a xs → xs[i]? = some x) ∧ ∀ ys, SqL K H b ys → ys[i]? = some y,
    fun i H => ∃ xs ys : List V, SqL K H a xs ∧ SqL K H b ys ∧ xs.length = i ∧ ys.length = i⟩
theorem turn_zl {P : Program} {w : World} {K : PySem.W.Frag} {elts : List Expr} {kk : Nat} {tpos : Pos} {a b z TI TO i1 i2 : Addr} (D : ZipApart z TI TO i1 i2 a b) :
    Turn P w K (.Tuple elts kk tpos) (ItzL K a b) [z, TI, TO, i1, i2] z (fun i h => SZip h z TI TO .none ∧ IsTupOf2 h TI (.ref i1) (.ref i2) ∧ (∃ x y, IsTupOf2 h TO x y) ∧ h.IsListIter i1 a i ∧ h.IsListIter i2 b i) := by
  have Sp : ZipSep2 z TI TO i1 i2 [i1, a] [i2, b] := ⟨D.TIz, D.TOz, D.TITO, D.TIi1, by simp, by simp [D.i1z.symm, D.l1z.symm], by simp [D.TOi1, D.l1TO.symm], D.TIi2, by simp, by simp [D.i2z.symm, D.l2z.symm], by simp [D.TOi2, D.l2TO.symm], by simp [D.i12, D.l2i1.symm], by simp [D.i12.symm, D.l1i2.symm]⟩
  refine ⟨by simp, fun i h st c hc => ?_, fun i h h' st k => ?_, ?_, ?_, fun A i s Q E st h => zs_iter st.1 h⟩
  · obtain ⟨hz, hTI, ⟨x, y, hTO⟩, ⟨o1, e1, _, d1⟩, ⟨o2, e2, _, d2⟩⟩ := st
    have e' : c = z ∨ c = TI ∨ c = TO ∨ c = i1 ∨ c = i2 := by simpa using hc
    rcases e' with q | q | q | q | q <;> rw [q]
    · exact ⟨_, hz, fun v q => nomatch q⟩
    · exact ⟨_, hTI, fun v q => nomatch q⟩
    · exact ⟨_, hTO, fun v q => nomatch q⟩
    · exact ⟨o1, e1, fun v q => by rw [d1] at q; cases q⟩
    · exact ⟨o2, e2, fun v q => by rw [d2] at q; cases q⟩
  · obtain ⟨hz, hTI, ⟨x, y, hTO⟩, h1, h2⟩ := st
    have kz := k z (by simp); have kI := k TI (by simp); have kO := k TO (by simp)
    exact ⟨kz _ hz, kI _ hTI, ⟨x, y, kO _ hTO⟩, h1.at fun o q => k i1 (by simp) o q, h2.at fun o q => k i2 (by simp) o q⟩
  · intro X hP hw hK hc i pins s σ H E I hf st hg
    subst hP; subst hw; subst hK
    obtain ⟨hz, hTI, ⟨x0, y0, hTO⟩, h1, h2⟩ := st; obtain ⟨xs, ys, hqx, hqy, hl, hi⟩ := hg
    obtain ⟨its, rv, p, _⟩ := I.list hqx; obtain ⟨its2, rv2, p2, _⟩ := I.list hqy
    have l1 := rv.length; have l2 := rv2.length
    have hzl : z < s.heap.objs.size := Heap.lt_size hz
    have hh : X.A.handled = none := I.ok.hd hc
    have Da := Draws.list (prog := X.prog) (w := X.w) (A := X.A.in1) (show X.A.in1.handled = none from hh) i1 a D.l1i1 its.toArray
    have Db0 := Draws.list (prog := X.prog) (w := X.w) (A := X.A.in1) (show X.A.in1.handled = none from hh) i2 b D.l2i2 its2.toArray
    have esz : its2.toArray.size = its.toArray.size := by simp; omega
    have Db : Draws X.prog X.w X.A.in1 i2 [i2, b] its.toArray.size (fun j v => its2.toArray[j]? = some v) (fun j h => h.IsListIter i2 b j ∧ h.IsList b its2.toArray) := by rw [← esz]; exact Db0
    have hin : i < its.toArray.size := by simp; omega
    refine zs_pyNext (s := s) hh Sp Da Db hz hTI hTO ⟨h1, p.isList⟩ ⟨h2, p2.isList⟩ (Nat.le_of_lt hin) (fun _ u u2 h' tk px py z' TO' sa' sb' hT hsz hk => ?_) (fun e => absurd e (Nat.ne_of_lt hin))
    have hu : its[i]? = some u := by simpa using px
    have hu2 : its2[i]? = some u2 := by simpa using py
    obtain ⟨x, hx⟩ : ∃ x, xs[i]? = some x := ⟨_, List.getElem?_eq_getElem hi⟩
    obtain ⟨y, hy⟩ : ∃ y, ys[i]? = some y := ⟨_, List.getElem?_eq_getElem (hl ▸ hi)⟩
    obtain ⟨u', hu', ru⟩ := rv.get hx; obtain ⟨u2', hu2', ru2⟩ := rv2.get hy
    rw [hu] at hu'; cases hu'; rw [hu2] at hu2'; cases hu2'
    refine ⟨_, rfl, zs_go (s := { s with heap := h', toks := tk }) z' fun h'' z'' sb => ?_⟩
    have hT2 : h''.get? s.heap.objs.size = some { cls := .type "tuple", data := .seq #[u, u2] } := (sb.2 _ (Nat.ne_of_gt hzl)).trans hT
    have new : ObjOk X.prog X.w (upd H s.heap.objs.size (.tup [x, y])) h'' s.heap.objs.size (.tup [x, y]) := ⟨by show 2 ≤ sizeLine; decide, [u, u2], .cons ru (.cons ru2 .nil), ⟨_, hT2, rfl, _, rfl⟩⟩
    have I1 : Inv X pins σ (upd H s.heap.objs.size (.tup [x, y])) { s with heap := h'', toks := tk } :=
      I.turnedNew (t' := tk) (ch := [z, TI, TO, i1, i2]) (fun c o hb q => (sb.2 c (fun q' => hb (by simp [q']))).trans (hk c o (fun q' => hb (by simp [q'])) (fun q' => hb (by simp [q'])) (fun q' => hb (by simp [q'])) (fun q' => hb (by simp [q'])) q)) hf (Nat.le_refl _) new
    refine ⟨.ref s.heap.objs.size, _, I1, rfl, ⟨_, x, y, rfl, I.hok.fresh (Nat.le_refl _), rfl, fun l hl => by rw [I.list_inj hl hqx]; exact hx, fun l hl => by rw [I.list_inj hl hqy]; exact hy⟩, ⟨z'', (sb.2 _ D.TIz).trans (hk _ _ D.TIz D.TITO D.TIi1 D.TIi2 hTI), ⟨u, u2, (sb.2 _ D.TOz).trans TO'⟩, sa'.1.at fun o q => (sb.2 _ D.i1z).trans q, sb'.1.at fun o q => (sb.2 _ D.i2z).trans q⟩, fun c hcm => ?_⟩
    have hlt : c < s.heap.objs.size := by
      have e' : c = z ∨ c = TI ∨ c = TO ∨ c = i1 ∨ c = i2 := by simpa using hcm
      rcases e' with q | q | q | q | q <;> rw [q]
      · exact hzl
      · exact Heap.lt_size hTI
      · exact Heap.lt_size hTO
      · obtain ⟨_, e1, _⟩ := h1; exact Heap.lt_size e1
      · obtain ⟨_, e2, _⟩ := h2; exact Heap.lt_size e2
    rw [upd_ne (Nat.ne_of_lt hlt)]; exact (hf c hcm).1
  · intro X hP hw hK hc i pins s σ H E I hf st hg
    subst hP; subst hw; subst hK
    obtain ⟨hz, hTI, ⟨x0, y0, hTO⟩, h1, h2⟩ := st; obtain ⟨xs, ys, hqx, hqy, hl, hl2⟩ := hg
    obtain ⟨its, rv, p, _⟩ := I.list hqx; obtain ⟨its2, rv2, p2, _⟩ := I.list hqy
    have l1 := rv.length; have l2 := rv2.length
    have hh : X.A.handled = none := I.ok.hd hc
    have Da := Draws.list (prog := X.prog) (w := X.w) (A := X.A.in1) (show X.A.in1.handled = none from hh) i1 a D.l1i1 its.toArray
    have Db0 := Draws.list (prog := X.prog) (w := X.w) (A := X.A.in1) (show X.A.in1.handled = none from hh) i2 b D.l2i2 its2.toArray
    have esz : its2.toArray.size = its.toArray.size := by simp; omega
    have Db : Draws X.prog X.w X.A.in1 i2 [i2, b] its.toArray.size (fun j v => its2.toArray[j]? = some v) (fun j h => h.IsListIter i2 b j ∧ h.IsList b its2.toArray) := by rw [← esz]; exact Db0
    have hin : i = its.toArray.size := by simp; omega
    refine zs_pyNext (s := s) hh Sp Da Db hz hTI hTO ⟨h1, p.isList⟩ ⟨h2, p2.isList⟩ (Nat.le_of_eq hin) (fun lt => absurd hin (Nat.ne_of_lt lt)) (fun _ h' tk hk => ⟨rfl, I.turnedL (t' := tk) (ch := [z, TI, TO, i1, i2]) (fun c o hb q => hk c o (fun q' => hb (by simp [q'])) (fun q' => hb (by simp [q'])) (fun q' => hb (by simp [q'])) (fun q' => hb (by simp [q'])) q) hf⟩)
def iZipL (K : PySem.W.Frag) (ta tk : TA) : TI := fun σ H R => ta σ H fun vs H1 => tk σ H1 fun zs H2 => zs = [.bl true] ∧ ∃ a b xs ys, vs = [.ref a, .ref b] ∧ SqL K H2 a xs ∧ SqL K H2 b ys ∧ R (ItzL K a b) H2
theorem pi_zl {X : Cx} {e e2 : Expr} {kws : List Keyword} {ta tk : TA} {p pos tpos : Pos} {elts : List Expr} {kk : Nat} (hg : Gl X "zip") (hm : X.mg "zip" = none) (ha : PA X [e, e2] ta) (hk : PK X kws tk)
    (he : backTo pos (starEach [e, e2] X.env) = (false, eval e X.env) :: backTo pos (starEach [e2] X.env) := by rfl) (hp : (backTo pos (starEach [e, e2] X.env)).any (·.1) = false := by rfl)
    (hal : (backToKw pos (keywordEach kws X.env)).all (·.1.isSome) = true := by rfl) (hkn : (backToKw pos (keywordEach kws X.env)).any (·.1.isNone) = false := by rfl) (hks : (backToKw pos (keywordEach kws X.env)).filterMap (·.1) = [("strict" : Str)] := by rfl) :
    PI X (.Tuple elts kk tpos) (.Call (.Name "zip" p) [e, e2] kws pos) (iZipL X.K ta tk) := by
  refine ⟨fun pins s σ H R I h => wpAny_Call_Name_kw (ld_blt I hg hm PyProof.Rows.boot_zip (tykw (thn (ha.run pos pins s σ H _ I h) fun us s1 ⟨vs, H1, I1, r1, q1⟩ => thn (hk.run pos pins s1 σ H1 _ I1 q1) fun ws s2 ⟨zs, H2, I2, r2, q2⟩ => ?_) he hp hal hkn))⟩
  rw [hks]; obtain ⟨ez, a, b, xs, ys, ex, hqx, hqy, q⟩ := q2
  subst ez; subst ex
  cases r2 with
  | cons rb rr => cases rr; cases (show _ = Value.bool true from rb); cases r1 with
    | cons r rr => cases rr with
      | cons r' rr =>
        cases rr; cases r; cases r'
        obtain ⟨its, rv, p1, _⟩ := I2.list hqx; obtain ⟨its2, rv2, p2, _⟩ := I2.list hqy
        refine zl_made p1.isList p2.isList fun g' hz hTI hTO h1 h2 hk' => zs_iter hz ?_
        have I3 : Inv X pins σ H2 { s2 with heap := g' } := I2.kept (t' := s2.toks) hk'

        refine ⟨s2.heap.objs.size + 4, [s2.heap.objs.size + 4, s2.heap.objs.size + 2, s2.heap.objs.size + 3, s2.heap.objs.size, s2.heap.objs.size + 1], _, _, H2, rfl, I3, turn_zl (PySem.W.ktu_apart s2.heap.objs.size a b p1.lt p2.lt), ⟨hz, hTI, ⟨_, _, hTO⟩, h1, h2⟩, fun c hcm => ?_, q⟩
        have hle : s2.heap.objs.size ≤ c := by
          have e' : c = s2.heap.objs.size + 4 ∨ c = s2.heap.objs.size + 2 ∨ c = s2.heap.objs.size + 3 ∨ c = s2.heap.objs.size ∨ c = s2.heap.objs.size + 1 := by simpa using hcm
          rcases e' with z | z | z | z | z <;> rw [z] <;> first | exact Nat.le_add_right _ _ | exact Nat.le_refl _
        exact I2.fpOk hle (I2.hok.fresh hle)
theorem walk_zl {K : PySem.W.Frag} {a b : Addr} {xs ys : List V} (hl : xs.length = ys.length) : Walk (ItzL K a b) xs.length (fun H => SqL K H a xs ∧ SqL K H b ys) (YPair (fun i => xs[i]?) (fun i => ys[i]?)) :=
  ⟨fun i _ hi q => ⟨xs, ys, q.1, q.2, hl, hi⟩, fun _ q => ⟨xs, ys, q.1, q.2, rfl, hl.symm⟩, fun i H v H' _ q ⟨T, x, z, h1, h2, h3, h4, h5⟩ => ⟨T, x, z, h1, h2, h3, h4 xs q.1, h5 ys q.2⟩⟩
theorem k_piZL {X : Cx} (K : PySem.W.Frag) (h : X.K = K) {e e2 : Expr} {kws : List Keyword} {ta tk : TA} {p pos tpos : Pos} {elts : List Expr} {kk : Nat} (hg : Gl X "zip") (hm : X.mg "zip" = none) (ha : PA X [e, e2] ta) (hk : PK X kws tk)
    (he : backTo pos (starEach [e, e2] X.env) = (false, eval e X.env) :: backTo pos (starEach [e2] X.env) := by rfl) (hp : (backTo pos (starEach [e, e2] X.env)).any (·.1) = false := by rfl)
    (hal : (backToKw pos (keywordEach kws X.env)).all (·.1.isSome) = true := by rfl) (hkn : (backToKw pos (keywordEach kws X.env)).any (·.1.isNone) = false := by rfl) (hks : (backToKw pos (keywordEach kws X.env)).filterMap (·.1) = [("strict" : Str)] := by rfl) :
    PI X (.Tuple elts kk tpos) (.Call (.Name "zip" p) [e, e2] kws pos) (iZipL K ta tk) := by subst h; exact pi_zl hg hm ha hk he hp hal hkn hks
end My

namespace My
open PySem PySem.Spec PyProof.Rows L2
/-! ### f(k = v, ..), nothing by position -/
theorem FunD.kbindsN {K : PySem.W.Frag} {x qual : Str} {params : Arguments} {body : List Stmt} {scope : Scope} {f : Addr} {fd : FuncData} {ps : List Str} (F : FunD K x qual params body scope [] [] f fd) (ks : List Str) (g : {α : Type} → List α → List α)
    (hrel : ∀ {zs : List V} {ws : List Value}, Vals zs ws → Vals (g zs) (g ws))
    (h : ∀ (kV doc pm : Value) (an : Option Addr) (cdv ct : Value) (ws : List Value), ws.length = ks.length → bindArgs (PySem.W.fnOf x qual params body scope .none kV doc pm an cdv ct) ⟨[], ks.zip ws⟩ = pure (ps.zip (g ws))) :
    KBn K fd ps 0 ks (fun _ ws => g ws) (fun _ zs => g zs) := by
  obtain ⟨oc, od, dV, kV, doc, pm, an, cdv, ct, osl, rfl, lk, hcd, hD, hK⟩ := F.ex
  rcases hD with ⟨_, rfl⟩ | ⟨e, _⟩
  · refine ⟨fun s us ws X l1 l2 => ?_, fun _ r => hrel r⟩
    obtain rfl : us = [] := List.eq_nil_of_length_eq_zero l1
    exact .of_eq (h kV doc pm an cdv ct ws l2)
  · exact absurd rfl e
/-- two, the other way round -/
def sw2 {α : Type} : List α → List α
  | [a, b] => [b, a]
  | l => l
theorem sw2_rel {zs : List V} {ws : List Value} (h : Vals zs ws) : Vals (sw2 zs) (sw2 ws) := by
  cases h with
  | nil => exact .nil
  | cons r1 h => cases h with
    | nil => exact .cons r1 .nil
    | cons r2 h => cases h with
      | nil => exact .cons r2 (.cons r1 .nil)
      | cons r3 h => exact .cons r1 (.cons r2 (.cons r3 h))
/-- any number of them, back to front -/
theorem Vals_rev {zs : List V} {ws : List Value} (h : Vals zs ws) : Vals zs.reverse ws.reverse := by
  induction h with
  | nil => exact .nil
  | cons r h ih =>
    rw [List.reverse_cons, List.reverse_cons]
    exact Vals.append ih (.cons r .nil)
def tCallKO (m : Nat) (sp : Sp) (gV : List V → List V → List V) (E : XK) (tk : TA) : TE := fun σ H Q => tk σ H fun zs H2 => zs.length = m ∧ sp (gV [] zs) H2 Q E
section
variable {X : Cx} {CX : CXT} {k : Nat} {f : Addr} {fd : FuncData} {ps ks : List Str} {sp : Sp} {E : XK} {x : Str} {p pos : Pos} {kws : List Keyword} {tk : TA} {g : List Value → List Value → List Value} {gV : List V → List V → List V}
theorem pe_callKO (F : FnOk X.prog X.w X.K X.mg X.base CX k f fd ps sp) (hr : Room k X.A) (hg : Gl X x) (hm : X.mg x = some (.ref f)) (hk : PySem.W.keepIn X.K (.ref f) = true) (hb : KBn X.K fd ps 0 ks g gV) (hx : Passes CX X E)
    (hkw : PK X kws tk) (hall : (backToKw pos (keywordEach kws X.env)).all (·.1.isSome) = true := by rfl) (hks : (backToKw pos (keywordEach kws X.env)).filterMap (·.1) = ks := by rfl)
    (hdb : (x == ("__debug__" : Str)) = false := by decide)
    (hpl : ((backTo pos (starEach [] X.env)).any (·.1) || (backToKw pos (keywordEach kws X.env)).any (·.1.isNone)) = false := by rfl) :
    PE X (.Call (.Name x p) [] kws pos) (tCallKO ks.length sp gV E tk) := by
  refine ⟨fun pins s σ H Q I h => ?_⟩
  refine wpAny_Call_Name_kw (ld_glob I hg hm ?_ hdb)
  refine PySem.W.callWith_KW0 (h₀ := X.base) I.ok.mod.kin hk hall (thn (hkw.run pos pins s σ H _ I h) fun ws s2 ⟨zs, H2, I2, rz, l2, q2⟩ => ⟨I2.kIn, ?_⟩) hpl
  rw [hks]
  exact run_fnN (us := []) (vs := []) F hr hb hx I2 .nil rz rfl l2 q2
end
end My

set_option exponentiation.threshold 100000
namespace My
open PySem PySem.Spec PyProof.Rows L2 Pre
section
variable {P : Program} {w : World} {K : PySem.W.Frag} {mg : Str → Option Value} {base : Heap}
/-! ### the law's draws -/
/-- a generator: its count is at most n -/
def GenAt (H : Hp) (g : Addr) (n : Nat) : Prop := ∃ x y z : Int, H g = some (.lst [.int x, .int y, .int z]) ∧ 0 ≤ z ∧ z ≤ (n : Int)
/-- all but one thing stand as they stood -/
def But (g : Addr) (H H' : Hp) : Prop := ∀ b o, b ≠ g → H b = some o → H' b = some o
theorem But.refl {g : Addr} {H : Hp} : But g H H := fun _ _ _ h => h
theorem But.trans {g : Addr} {H H1 H2 : Hp} (a : But g H H1) (b : But g H1 H2) : But g H H2 := fun c o n h => b c o n (a c o n h)
theorem But.same {g : Addr} {H H1 H2 : Hp} (a : But g H H1) (b : Same H1 H2) : But g H H2 := fun c o n h => b c o (a c o n h)
theorem But.of {g : Addr} {H H1 : Hp} (b : Same H H1) : But g H H1 := fun c o _ h => b c o h
theorem But.upd {g : Addr} {H H1 : Hp} {o : HO} (a : But g H H1) : But g H (upd H1 g o) := fun c u n h => by
  rw [upd_ne n]
  exact a c u n h
theorem But.free {g : Addr} {H H1 : Hp} (a : But g H H1) {p : Addr} (n : p ≠ g) (h : H1 p = none) : H p = none := by
  cases e : H p with
  | none => rfl
  | some o => rw [a p o n e] at h; cases h
/-- what is changed was not there at first -/
theorem But.fresh {g : Addr} {H H1 H2 : Hp} (s : Same H H1) (n : H g = none) (b : But g H1 H2) : Same H H2 := fun c o h => b c o (ne_of_none h n) (s c o h)
theorem GenAt.mono {H : Hp} {g : Addr} {n m : Nat} (h : GenAt H g n) (l : n ≤ m) : GenAt H g m := by
  obtain ⟨x, y, z, a, b, c⟩ := h
  exact ⟨x, y, z, a, b, by omega⟩
theorem GenAt.same {H H' : Hp} {g : Addr} {n : Nat} (h : GenAt H g n) (s : Same H H') : GenAt H' g n := by
  obtain ⟨x, y, z, a, b⟩ := h
  exact ⟨x, y, z, s _ _ a, b⟩
theorem GenAt.ne {H : Hp} {g : Addr} {n : Nat} {p : Addr} (h : GenAt H g n) (np : H p = none) : p ≠ g := by
  obtain ⟨x, y, z, a, _⟩ := h
  exact (ne_of_none a np).symm
theorem small_2900 {b : Int} (h : b ≤ 2 ^ 60) : b < 2 ^ 2900 := by omega
theorem pow_pos' (w : Nat) : (0 : Int) < 2 ^ w := Int.pow_pos (by decide)
theorem pow2_le {k m : Nat} (h : k ≤ m) : (2 : Int) ^ k ≤ 2 ^ m := by
  have e := Nat.pow_le_pow_right (show 0 < 2 by decide) h
  have e2 : ((2 ^ k : Nat) : Int) ≤ ((2 ^ m : Nat) : Int) := Int.ofNat_le.mpr e
  rw [Int.natCast_pow, Int.natCast_pow] at e2
  exact e2
def sp_law_cell (K : PySem.W.Frag) : Sp := fun vs H Q _ => ∃ (a : Addr) (ns : List Int) (i : Nat), vs = [.ref a, .int i] ∧ SqL K H a (ns.map V.int) ∧ ∀ (n : Int) H', Same H H' → Q (.int n) H'
theorem cmul_mod (x m j : Int) (h0 : 0 < m) (h1 : m ≤ 2 ^ 60) : CMul (x % m) j := by
  have a := Int.emod_nonneg x (show m ≠ 0 by omega)
  have b := Int.emod_lt_of_pos x h0
  exact .inl ⟨by omega, by omega⟩
def sp_law_hash : Sp := fun vs H Q _ => ∃ i j : Int, vs = [.int i, .int j] ∧ 0 ≤ j ∧ j < 2 ^ 60 ∧ ∀ n : Int, Q (.int n) H
theorem G_law_hash (T : Top K mg) : FnOk P w K mg base CX0 1 T.f_law_hash T.fd_law_hash ["_law_seed", "_law_index"] sp_law_hash := by
  refine T.F_law_hash.ok sc_law_hash (fun vs H Q E h => by obtain ⟨i, j, rfl, _⟩ := h; rfl) (fun cdv A outer s H vs Q E hr h => ?_)
  obtain ⟨i, j, rfl, h0, h1, q⟩ := h
  refine ⟨_, PSs.nox (pss_cons (ps_set (i := 2) sc_law_hash.nd rfl (by first | exact Or.inl rfl | exact Or.inr rfl) (pe_op op_mod (pe_callTy call_int1 (by rfl) T.n_int (by decide +kernel) (pa_cons (pe_op op_add (pe_op op_add (pe_op op_add (pe_op op_mul (pv 0) pe_int) (pe_op op_mul (pe_op op_mul pe_int (pv 1)) (pv 1))) (pe_op op_mul pe_int (pv 1))) pe_int) pa_nil)) pe_int))
  (pss_cons (ps_set (i := 2) sc_law_hash.nd rfl (by first | exact Or.inl rfl | exact Or.inr rfl) (pe_op op_mod (pe_callTy call_int1 (by rfl) T.n_int (by decide +kernel) (pa_cons (pe_op op_add (pe_op op_add (pe_op op_mul (pv 2) (pv 2)) (pe_op op_mul pe_int (pv 1))) pe_int) pa_nil)) pe_int))
  (pss_one (ps_ret (pe_op op_mod (pe_callTy call_int1 (by rfl) T.n_int (by decide +kernel) (pa_cons (pe_op op_mul (pv 2) pe_int) pa_nil)) pe_int))))), ?_⟩
  refine ⟨_, rfl, _, _, rfl, rfl, .inr ⟨by decide, by decide⟩, _, rfl, _, _, rfl, rfl, .inl ⟨by decide, by decide⟩, _, rfl, _, _, rfl, rfl, .inr ⟨by omega, by omega⟩, _, _, rfl, rfl, _, rfl, _, _, rfl, rfl, .inl ⟨by decide, by decide⟩, _, _, rfl, rfl, _, _, rfl, rfl,
    .inl ⟨_, rfl, _, _, rfl, rfl, (by show (0 : Int) < _; decide), ?_⟩⟩
  refine ⟨_, rfl, _, rfl, _, _, rfl, rfl, cmul_mod _ _ _ (by decide) (by decide), _, rfl, _, _, rfl, rfl, .inl ⟨by decide, by decide⟩, _, _, rfl, rfl, _, _, rfl, rfl, .inl ⟨_, rfl, _, _, rfl, rfl, (by show (0 : Int) < _; decide), ?_⟩⟩
  refine ⟨_, rfl, _, _, rfl, rfl, .inr ⟨by decide, by decide⟩, .inl ⟨_, rfl, _, _, rfl, rfl, (by show (0 : Int) < _; decide), ?_⟩⟩
  exact q _

def sp_law_generator (K : PySem.W.Frag) : Sp := fun vs H Q _ => ∃ (a : Addr) (ns : List Int) (i : Nat), vs = [.ref a, .int i] ∧ SqL K H a (ns.map V.int) ∧ ∀ H' g, Same H H' → H g = none → GenAt H' g (1000 * i) → Q (.ref g) H'
theorem G_law_generator (T : Top K mg) : FnOk P w K mg base CX0 1 T.f_law_generator T.fd_law_generator ["_law_script", "_law_index"] (sp_law_generator K) := by
  refine T.F_law_generator.ok sc_law_generator (fun vs H Q E h => by obtain ⟨a, ns, i, rfl, _⟩ := h; rfl) (fun cdv A outer s H vs Q E hr h => ?_)
  obtain ⟨a, ns, i, rfl, hS, q⟩ := h
  refine ⟨_, PSs.nox (pss_cons (ps_set (i := 2) sc_law_generator.nd rfl (by first | exact Or.inl rfl | exact Or.inr rfl) (pe_ifExp (pt_cmpR op_lt (pv 1) (pe_callB (k_len K rfl) (by rfl) T.n_len (by decide +kernel) (pa_cons (pv 0) pa_nil)) (nomark _)) (pe_ix (k_ixL K rfl) (pv 0) (pv 1) (fun _ _ => rfl)) (pe_op op_mod (pe_callB (k_sum K rfl rfl) (by rfl) T.n_sum (by decide +kernel) (pa_cons (pe_slice (k_slL K rfl) (pv 0) po_none (po_some pe_int)) pa_nil)) pe_int)))
  (pss_one (ps_ret (pe_lst (pa_cons (pe_op op_mod (pe_callTy call_int1 (by rfl) T.n_int (by decide +kernel) (pa_cons (pe_callB (call_max2 rfl) (by rfl) T.n_max (by decide +kernel) (pa_cons (pe_op op_sub (pv 2) (pe_op op_powW pe_int pe_int)) (pa_cons pe_int pa_nil))) pa_nil)) (pe_op op_powW (pe_op op_powW pe_int pe_int) pe_int)) (pa_cons (pe_op op_mod (pe_callTy call_int1 (by rfl) T.n_int (by decide +kernel) (pa_cons (pv 2) pa_nil)) pe_int) (pa_cons (pe_op op_mul pe_int (pv 1)) pa_nil))))))), ?_⟩
  refine ⟨_, rfl, _, rfl, a, _, rfl, .inl hS, _, _, rfl, rfl, _, rfl, ite2 (fun e => ?_) (fun e => ?_)⟩
  · have e1 : (i : Int) < (((ns.map V.int).length : Nat) : Int) := of_decide_eq_true e
    rw [List.length_map] at e1
    have hi : i < ns.length := by omega
    refine ⟨_, rfl, _, rfl, a, _, _, .int ns[i], rfl, rfl, hS, atI_nat (by rw [List.getElem?_map, List.getElem?_eq_getElem hi]; rfl), ?_⟩
    have s1 := Same.refl H
    generalize ns[i] = n at *
    refine ⟨_, rfl, _, _, rfl, rfl, ⟨by decide, by decide +kernel⟩, _, _, rfl, rfl, _, _, rfl, .inl ⟨_, rfl, _, _, rfl, rfl, ⟨by decide, by decide +kernel⟩, _, _, rfl, rfl, ⟨by decide, by decide +kernel⟩, _, _, rfl, rfl, (by show (0 : Int) < _; decide +kernel), ?_⟩⟩
    refine ⟨_, rfl, .inl ⟨_, rfl, _, _, rfl, rfl, (by show (0 : Int) < _; decide), ?_⟩⟩
    refine ⟨_, rfl, _, _, rfl, rfl, .inl ⟨by decide, by decide⟩, (show 3 ≤ sizeLine by decide), fun g ng => ?_⟩
    exact q _ g (s1.trans (same_upd ng)) (s1.free ng) ⟨_, _, _, upd_same, by omega, by omega⟩
  · refine ⟨_, rfl, _, rfl, a, _, rfl, hS, fun p np => ?_⟩
    have ec : ∃ ms : List Int, cutV (ns.map V.int) none (some 1) = ms.map V.int := ⟨ns.take 1, by rw [show (1 : Int) = ((1 : Nat) : Int) from rfl, cut_take, List.map_take]⟩
    obtain ⟨ms, em⟩ := ec
    obtain ⟨H1, e1, s1, hp⟩ := fresh (.lst (cutV (ns.map V.int) none (some 1))) np
    rw [e1]
    refine ⟨p, ms, rfl, .inl (.inl (by rw [hp, em])), _, _, rfl, rfl, (by show (0 : Int) < 1000003; decide), ?_⟩
    dsimp only
    generalize ms.sum % 1000003 = n at *
    refine ⟨_, rfl, _, _, rfl, rfl, ⟨by decide, by decide +kernel⟩, _, _, rfl, rfl, _, _, rfl, .inl ⟨_, rfl, _, _, rfl, rfl, ⟨by decide, by decide +kernel⟩, _, _, rfl, rfl, ⟨by decide, by decide +kernel⟩, _, _, rfl, rfl, (by show (0 : Int) < _; decide +kernel), ?_⟩⟩
    refine ⟨_, rfl, .inl ⟨_, rfl, _, _, rfl, rfl, (by show (0 : Int) < _; decide), ?_⟩⟩
    refine ⟨_, rfl, _, _, rfl, rfl, .inl ⟨by decide, by decide⟩, (show 3 ≤ sizeLine by decide), fun g ng => ?_⟩
    exact q _ g (s1.trans (same_upd ng)) (s1.free ng) ⟨_, _, _, upd_same, by omega, by omega⟩
def sp_law_random : Sp := fun vs H Q _ => ∃ (g : Addr) (b : Int) (n : Nat), vs = [.ref g, .int b] ∧ GenAt H g n ∧ n ≤ 10 ^ 12 ∧ 0 < b ∧ b < 2 ^ 2900 ∧ ∀ (d : Int) H', 0 ≤ d → d < b → GenAt H' g (n + 100) → But g H H' → Q (.int d) H'
theorem G_law_random (T : Top K mg) : FnOk P w K mg base CX0 2 T.f_law_random T.fd_law_random ["_law_generator_here", "_law_bound"] sp_law_random := by
  refine T.F_law_random.ok sc_law_random (fun vs H Q E h => by obtain ⟨g, b, n, rfl, _⟩ := h; rfl) (fun cdv A outer s H vs Q E hr h => ?_)
  obtain ⟨g, b, n, rfl, ⟨x, y, z, hg, z0, z1⟩, hn, b0, b1, q⟩ := h
  refine ⟨_, PSs.nox (pss_cons (ps_if (pt_cmpR op_gt (pe_ix (k_ixL K rfl) (pv 0) pe_int (fun _ _ => rfl)) pe_int (nomark _))
    (pss_cons (ps_set (i := 2) sc_law_random.nd rfl (by first | exact Or.inl rfl | exact Or.inr rfl) (pe_op op_mod (pe_callTy call_int1 (by rfl) T.n_int (by decide +kernel) (pa_cons (pe_ix (k_ixL K rfl) (pv 0) pe_int (fun _ _ => rfl)) pa_nil)) (pv 1)))
  (pss_cons (ps_asg (pe_op op_fdivW (pe_ix (k_ixL K rfl) (pv 0) pe_int (fun _ _ => rfl)) (pv 1)) (pg_sub (pv 0) pe_int set_list))
  (pss_one (ps_ret (pv 2)))))
    pss_nil)
  (pss_cons (ps_set (i := 2) sc_law_random.nd rfl (by first | exact Or.inl rfl | exact Or.inr rfl) pe_int)
  (pss_cons (ps_for PassesOwn.never rfl (pi_range1 (by rfl) T.n_range (pa_cons (pe_op op_add pe_int (pe_op op_fdivW (pe_bits (pv 1)) pe_int)) pa_nil)) (pg_name (i := 3) sc_law_random.nd rfl (by first | exact Or.inl rfl | exact Or.inr rfl))
    (pss_cons (ps_asg (pe_op op_add (pe_ix (k_ixL K rfl) (pv 0) pe_int (fun _ _ => rfl)) pe_int) (pg_sub (pv 0) pe_int set_list))
  (pss_one (ps_set (i := 2) sc_law_random.nd rfl (by first | exact Or.inl rfl | exact Or.inr rfl) (pe_op op_add (pe_op op_mul (pv 2) pe_int) (pe_call (G_law_hash (P := P) T) (hr.mono (by decide)) (by rfl) T.g_law_hash T.F_law_hash.kp T.b_law_hash .nil pass0 (pa_cons (pe_ix (k_ixL K rfl) (pv 0) pe_int (fun _ _ => rfl)) (pa_cons (pe_ix (k_ixL K rfl) (pv 0) pe_int (fun _ _ => rfl)) pa_nil))))))))
  (pss_one (ps_ret (pe_op op_mod (pe_callTy call_int1 (by rfl) T.n_int (by decide +kernel) (pa_cons (pv 2) pa_nil)) (pv 1))))))), ?_⟩
  have a0 : ∀ x y z : Int, atI [V.int x, .int y, .int z] 0 = some (.int x) := fun _ _ _ => rfl
  have a1 : ∀ x y z : Int, atI [V.int x, .int y, .int z] 1 = some (.int y) := fun _ _ _ => rfl
  have a2 : ∀ x y z : Int, atI [V.int x, .int y, .int z] 2 = some (.int z) := fun _ _ _ => rfl
  have hS : SqL K H g [.int x, .int y, .int z] := .inl (.inl hg)
  have nb : b.natAbs < 2 ^ 2900 := by
    have e : ((b.natAbs : Nat) : Int) < ((2 ^ 2900 : Nat) : Int) := by
      rw [Int.natCast_pow]
      omega
    exact Int.ofNat_lt.mp e
  refine ⟨_, rfl, g, _, 0, _, rfl, rfl, hS, a0 x y z, _, _, rfl, rfl, _, rfl, ite2 (fun e => ?_) (fun e => ?_)⟩
  · refine ⟨_, rfl, g, _, 0, _, rfl, rfl, hS, a0 x y z, .inl ⟨_, rfl, _, rfl, _, _, rfl, rfl, b0, ?_⟩⟩
    refine ⟨_, rfl, g, _, 0, _, rfl, rfl, hS, a0 x y z, _, rfl, _, _, rfl, rfl, wide_div b0 nb (by decide) (by decide), _, rfl, g, _, 0, 0, rfl, rfl, hg, rfl, _, rfl, ?_⟩
    exact q _ _ (Int.emod_nonneg _ (by omega)) (Int.emod_lt_of_pos _ b0) ⟨_, _, _, upd_same, z0, by omega⟩ (But.upd But.refl)
  · have hb : Builtin.Int.intBits b ≤ 2900 := PyProof.Rows.intBits_le nb
    have hq0 : (0 : Int) ≤ ((Builtin.Int.intBits b : Nat) : Int) / 30 := Int.ediv_nonneg (Int.natCast_nonneg _) (by decide)
    have hq1 : ((Builtin.Int.intBits b : Nat) : Int) / 30 ≤ 97 := by omega
    refine ⟨_, rfl, _, rfl, _, _, rfl, rfl, ⟨by decide, by decide +kernel⟩, _, _, rfl, rfl, _, rfl, by omega, by omega, ?_⟩
    refine for_range (lo := 0) (n := (1 + ((Builtin.Int.intBits b : Nat) : Int) / 30).toNat) (fun i σ H1 => ∃ (d z' : Int) (v : Option V), σ = [some (.ref g), some (.int b), some (.int d), v] ∧ H1 g = some (.lst [.int x, .int y, .int z']) ∧ 0 ≤ z' ∧ z' ≤ (n : Int) + (i : Int) ∧ But g H H1)
      ⟨0, z, none, rfl, hg, z0, by omega, But.refl⟩ ?_ ?_
    · rintro i σ H1 hi ⟨d, z', v, rfl, hg1, y0, y1, b1⟩
      have hS1 : SqL K H1 g [.int x, .int y, .int z'] := .inl (.inl hg1)
      refine ⟨_, rfl, g, _, 2, _, rfl, rfl, hS1, a2 x y z', _, _, rfl, rfl, _, rfl, g, _, 2, 2, rfl, rfl, hg1, rfl, ?_⟩
      have hS2 : SqL K (upd H1 g (.lst [.int x, .int y, .int (z' + 1)])) g [.int x, .int y, .int (z' + 1)] := .inl (.inl upd_same)
      refine ⟨_, rfl, _, _, rfl, rfl, .inr ⟨by decide, by decide⟩, _, rfl, g, _, 1, _, rfl, rfl, hS2, a1 _ _ _, _, rfl, g, _, 2, _, rfl, rfl, hS2, a2 _ _ _, _, _, rfl, by omega, by omega, fun r => ?_⟩
      exact ⟨_, _, rfl, rfl, _, z' + 1, _, rfl, upd_same, by omega, by omega, But.upd b1⟩
    · rintro σ H1 ⟨d, z', v, rfl, hg1, y0, y1, b1⟩
      refine ⟨_, rfl, .inl ⟨_, rfl, _, rfl, _, _, rfl, rfl, b0, ?_⟩⟩
      exact q _ _ (Int.emod_nonneg _ (by omega)) (Int.emod_lt_of_pos _ b0) ⟨_, _, _, hg1, y0, by omega⟩ b1
/-- a comprehension over a range that draws whole numbers -/
theorem lc_drawR {lo : Int} {n : Nat} {j : Nat} {te : TE} {vs : List Nat} {σ : L2.St} {H1 : Hp} {D : Addr} {Qd : Hp → Prop} (g : Addr) (m step : Nat) (P : Int → Prop) (nD : H1 D = none) (hG : GenAt H1 g m) (hz : n < sizeLine)
    (hw : ∀ x, wipe ((wipe σ vs).set j (some x)) vs = wipe σ vs)
    (hs : ∀ (i : Nat) (H' : Hp), i < n → But g H1 H' → GenAt H' g (m + step * i) → ∀ Qt : V → Hp → Prop, (∀ (y : Int) H'', P y → But g H' H'' → GenAt H'' g (m + step * (i + 1)) → Qt (.int y) H'') → te ((wipe σ vs).set j (some (.int (lo + (i : Int))))) H' Qt)
    (hd : ∀ H' (ys : List Int), But g H1 H' → GenAt H' g (m + step * n) → H' D = some (.lst (ys.map V.int)) → ys.length = n → (∀ y ∈ ys, P y) → Qd H') :
    ∃ W : Nat → Nat → Hp → Prop, (∃ m, W 0 m (upd H1 D (.lst []))) ∧ ∀ i m H, W i m H →
      ((Itr lo n).stop i H ∧ Qd H) ∨ ((Itr lo n).go i H ∧ ∃ Nx : Hp → Prop, (∀ H', Nx H' → ∃ m', m' < m ∧ W (i + 1) m' H') ∧ ∀ x H', (Itr lo n).yld i H x H' → gName j x (wipe σ vs) H' fun σ2 H2 => wipe σ2 vs = wipe σ vs ∧ tYes σ2 H2 fun b H3 =>
        if b = true then te σ2 H3 fun y H4 => ∃ acc, H4 D = some (.lst acc) ∧ acc.length < sizeLine ∧ Nx (upd H4 D (.lst (acc ++ [y]))) else Nx H3) := by
  have nDg : D ≠ g := hG.ne nD
  refine lc_range (lo := lo) (n := n) (fun i H => ∃ ys : List Int, But g H1 H ∧ GenAt H g (m + step * i) ∧ H D = some (.lst (ys.map V.int)) ∧ ys.length = i ∧ ∀ y ∈ ys, P y)
    ⟨[], But.of (same_upd nD), hG.same (same_upd nD), upd_same, rfl, (fun _ h => nomatch h)⟩ ?_ ?_
  · rintro i H hi ⟨ys, b, hg, hD, hl, hP⟩
    refine ⟨hw _, ?_⟩
    unfold tYes
    dsimp only
    rw [if_pos (show true = true from rfl)]
    refine hs i H hi b hg _ fun y H2 py b2 hg2 => ?_
    refine ⟨_, b2 _ _ nDg hD, by rw [List.length_map]; omega, ys ++ [y], ?_, ?_, ?_, ?_, ?_⟩
    · intro c o nc hc
      rw [upd_ne (ne_of_none hc nD)]
      exact b2 _ _ nc (b _ _ nc hc)
    · obtain ⟨x1, x2, x3, e1, e2⟩ := hg2
      exact ⟨x1, x2, x3, by rw [upd_ne nDg.symm]; exact e1, e2⟩
    · rw [upd_same, List.map_append]
      rfl
    · rw [List.length_append, hl]
      rfl
    · intro z hz
      rcases List.mem_append.mp hz with hz | hz
      · exact hP z hz
      · rw [List.mem_singleton.mp hz]
        exact py
  · rintro H ⟨ys, b, hg, hD, hl, hP⟩
    exact hd H ys b hg hD hl hP
end
end My

namespace My
open PySem PySem.Spec PyProof.Rows L2 Pre
/-- a comprehension over a list of whole numbers that draws whole numbers -/
theorem lc_drawL {K : PySem.W.Frag} {a : Addr} {xs : List Int} {j : Nat} {te : TE} {vs : List Nat} {σ : L2.St} {H1 : Hp} {D : Addr} {Qd : Hp → Prop} (g : Addr) (m step : Nat) (P : Int → Prop) (nD : H1 D = none) (hG : GenAt H1 g m) (hA : H1 a = some (.lst (xs.map V.int))) (ag : a ≠ g) (hz : xs.length < sizeLine)
    (hw : ∀ x, wipe ((wipe σ vs).set j (some x)) vs = wipe σ vs)
    (hs : ∀ (i : Nat) (x : Int) (H' : Hp), xs[i]? = some x → But g H1 H' → GenAt H' g (m + step * i) → ∀ Qt : V → Hp → Prop, (∀ (y : Int) H'', P y → But g H' H'' → GenAt H'' g (m + step * (i + 1)) → Qt (.int y) H'') → te ((wipe σ vs).set j (some (.int x))) H' Qt)
    (hd : ∀ H' (ys : List Int), But g H1 H' → GenAt H' g (m + step * xs.length) → H' D = some (.lst (ys.map V.int)) → ys.length = xs.length → (∀ y ∈ ys, P y) → Qd H') :
    ∃ W : Nat → Nat → Hp → Prop, (∃ m, W 0 m (upd H1 D (.lst []))) ∧ ∀ i m H, W i m H →
      ((Itl K a).stop i H ∧ Qd H) ∨ ((Itl K a).go i H ∧ ∃ Nx : Hp → Prop, (∀ H', Nx H' → ∃ m', m' < m ∧ W (i + 1) m' H') ∧ ∀ x H', (Itl K a).yld i H x H' → gName j x (wipe σ vs) H' fun σ2 H2 => wipe σ2 vs = wipe σ vs ∧ tYes σ2 H2 fun b H3 =>
        if b = true then te σ2 H3 fun y H4 => ∃ acc, H4 D = some (.lst acc) ∧ acc.length < sizeLine ∧ Nx (upd H4 D (.lst (acc ++ [y]))) else Nx H3) := by
  have nDg : D ≠ g := hG.ne nD
  have aD : a ≠ D := ne_of_none hA nD
  refine lc_list (K := K) (a := a) (xs := xs.map V.int) (fun i H => ∃ ys : List Int, But g H1 H ∧ GenAt H g (m + step * i) ∧ H D = some (.lst (ys.map V.int)) ∧ ys.length = i ∧ ∀ y ∈ ys, P y)
    ⟨[], But.of (same_upd nD), hG.same (same_upd nD), upd_same, rfl, (fun _ h => nomatch h)⟩ (fun i H _ ⟨_, b, _⟩ => .inl (.inl (b _ _ ag hA))) ?_ ?_
  · rintro i v H hi ⟨ys, b, hg, hD, hl, hP⟩
    obtain ⟨x, hx, rfl⟩ := int_at hi
    have hil := (List.getElem?_eq_some_iff.mp hx).1
    refine ⟨hw _, ?_⟩
    unfold tYes
    dsimp only
    rw [if_pos (show true = true from rfl)]
    refine hs i x H hx b hg _ fun y H2 py b2 hg2 => ?_
    refine ⟨_, b2 _ _ nDg hD, by rw [List.length_map]; omega, ys ++ [y], ?_, ?_, ?_, ?_, ?_⟩
    · intro c o nc hc
      rw [upd_ne (ne_of_none hc nD)]
      exact b2 _ _ nc (b _ _ nc hc)
    · obtain ⟨x1, x2, x3, e1, e2⟩ := hg2
      exact ⟨x1, x2, x3, by rw [upd_ne nDg.symm]; exact e1, e2⟩
    · rw [upd_same, List.map_append]
      rfl
    · rw [List.length_append, hl]
      rfl
    · intro z hz
      rcases List.mem_append.mp hz with hz | hz
      · exact hP z hz
      · rw [List.mem_singleton.mp hz]
        exact py
  · rintro H ⟨ys, b, hg, hD, hl, hP⟩
    rw [List.length_map] at hg hl
    exact hd H ys b hg hD hl hP
end My

namespace My
open PySem PySem.Spec PyProof.Rows L2 Pre
/-- a comprehension over a list that makes new things: R tells what is known of the i-th -/
theorem lc_relL {K : PySem.W.Frag} {a : Addr} {xs : List V} {j : Nat} {te : TE} {vs : List Nat} {σ : L2.St} {H1 : Hp} {D : Addr} {Qd : Hp → Prop} (R : Nat → V → Hp → Prop) (nD : H1 D = none) (hS : SqL K H1 a xs) (hz : xs.length < sizeLine)
    (mono : ∀ (i : Nat) (y : V) (H H' : Hp), Pre.Off D H H' → R i y H → R i y H') (hw : ∀ x, wipe ((wipe σ vs).set j (some x)) vs = wipe σ vs)
    (hs : ∀ (i : Nat) (x : V) (H' : Hp) (zs : List V), xs[i]? = some x → Same H1 H' → H' D = some (.lst zs) → ∀ Qt : V → Hp → Prop, (∀ y H'', Same H' H'' → R i y H'' → Qt y H'') → te ((wipe σ vs).set j (some x)) H' Qt)
    (hd : ∀ H' ys, Same H1 H' → H' D = some (.lst ys) → ys.length = xs.length → (∀ (i : Nat) (y : V), ys[i]? = some y → R i y H') → Qd H') :
    ∃ W : Nat → Nat → Hp → Prop, (∃ m, W 0 m (upd H1 D (.lst []))) ∧ ∀ i m H, W i m H →
      ((Itl K a).stop i H ∧ Qd H) ∨ ((Itl K a).go i H ∧ ∃ Nx : Hp → Prop, (∀ H', Nx H' → ∃ m', m' < m ∧ W (i + 1) m' H') ∧ ∀ x H', (Itl K a).yld i H x H' → gName j x (wipe σ vs) H' fun σ2 H2 => wipe σ2 vs = wipe σ vs ∧ tYes σ2 H2 fun b H3 =>
        if b = true then te σ2 H3 fun y H4 => ∃ acc, H4 D = some (.lst acc) ∧ acc.length < sizeLine ∧ Nx (upd H4 D (.lst (acc ++ [y]))) else Nx H3) := by
  refine lc_list (K := K) (a := a) (xs := xs) (RelPv R H1 D) ⟨[], same_upd nD, upd_same, rfl, fun k y h => by simp at h⟩ (fun i H _ ⟨_, s, _⟩ => s.seq hS) ?_ ?_
  · rintro i x H hx ⟨ys, s, hD, hl, hR⟩
    have hi : i < xs.length := (List.getElem?_eq_some_iff.mp hx).1
    refine ⟨hw _, ?_⟩
    unfold tYes
    dsimp only
    rw [if_pos (show true = true from rfl)]
    refine hs i x H ys hx s hD _ fun y H4 s4 r4 => ?_
    refine ⟨ys, s4 _ _ hD, by omega, ys ++ [y], same_over nD (s.trans s4), upd_same, by rw [List.length_append, hl]; rfl, fun k z hz => ?_⟩
    have off : Pre.Off D H4 (upd H4 D (.lst (ys ++ [y]))) := fun b o nb h => by rw [upd_ne nb]; exact h
    by_cases hk : k < ys.length
    · rw [List.getElem?_append_left hk] at hz
      exact mono k z H _ (fun b o nb h => off b o nb (s4 b o h)) (hR k z hz)
    · rw [List.getElem?_append_right (by omega)] at hz
      have hk2 : k - ys.length = 0 := by
        have h2 := (List.getElem?_eq_some_iff.mp hz).1
        rw [List.length_singleton] at h2
        omega
      rw [hk2] at hz
      cases hz
      have ek : k = i := by omega
      rw [ek]
      exact mono i y H4 _ off r4
  · rintro H ⟨ys, s, hD, hl, hR⟩
    exact hd H ys s hD hl hR
/-- a list of lists of whole numbers -/
def RowsIn (H : Hp) (p : Addr) (rows : List (List Int)) : Prop := ∃ as : List Addr, H p = some (.lst (as.map V.ref)) ∧ as.length = rows.length ∧ ∀ (i : Nat) (a : Addr) (r : List Int), as[i]? = some a → rows[i]? = some r → H a = some (.lst (r.map V.int))
theorem RowsIn.same {H H' : Hp} {p : Addr} {rows : List (List Int)} (h : RowsIn H p rows) (s : Same H H') : RowsIn H' p rows := by
  obtain ⟨as, h1, h2, h3⟩ := h
  exact ⟨as, s _ _ h1, h2, fun i a r ha hr => s _ _ (h3 i a r ha hr)⟩
section
variable {X : Cx}
theorem huD {k : Nat} {A : Around} (r : Room k A) : A.units + 65 < cLine := by have := r.un; omega
theorem k_inD (K : PySem.W.Frag) (h : X.K = K) (hu : X.A.units + 65 < cLine) : OpR X (compareOp .In) (rInD K) := by subst h; exact op_inD hu
theorem k_notInD (K : PySem.W.Frag) (h : X.K = K) (hu : X.A.units + 65 < cLine) : OpR X (compareOp .NotIn) (rNotInD K) := by subst h; exact op_notInD hu
theorem k_indexD (K : PySem.W.Frag) (h : X.K = K) (hu : X.A.units + 65 < cLine) : MtR X "list.index" (rIndexD K) := by subst h; exact mt_indexD hu
end
/-- rows as data -/
def rowD (r : List Int) : PyData := .list (r.map PyData.int)
theorem rows_dp {K : PySem.W.Frag} {H : Hp} : ∀ {as : List Addr} {rows : List (List Int)}, as.length = rows.length → (∀ (i : Nat) (a : Addr) (r : List Int), as[i]? = some a → rows[i]? = some r → H a = some (.lst (r.map V.int))) → DpAll K H (as.map V.ref) (rows.map rowD)
  | [], [], _, _ => .nil
  | [], _ :: _, h, _ => by simp at h
  | _ :: _, [], h, _ => by simp at h
  | a :: as, r :: rows, h, k => .cons (.lst (.inl (.inl (k 0 a r rfl rfl))) (Pre.dp_ints r)) (rows_dp (by simpa using h) fun i t q ht hq => k (i + 1) t q (by simpa using ht) (by simpa using hq))
theorem rowD_eqv (r q : List Int) : PyData.eqv (rowD r) (rowD q) = decide (r = q) := by
  unfold rowD
  rw [PyData.eqv, eqv_ints]
theorem rows_shaped (rows : List (List Int)) : SeqAt.shaped (.list (rows.map rowD)) = true := by
  have h1 : ∀ l : List (List Int), PyData.canLayAll0 (l.map rowD) = true := fun l => by
    induction l with
    | nil => rfl
    | cons r l ih =>
      show (PyData.canLay0 (rowD r) && PyData.canLayAll0 (l.map rowD)) = true
      rw [ih]
      unfold rowD
      rw [PyData.canLay0, lay_ints]
      rfl
  have h2 : ∀ l : List (List Int), PyData.depthAll (l.map rowD) ≤ 1 := fun l => by
    induction l with
    | nil => simp [PyData.depthAll]
    | cons r l ih =>
      show PyData.depthAll (rowD r :: l.map rowD) ≤ 1
      rw [PyData.depthAll]
      unfold rowD at *
      rw [PyData.depth, depth_ints]
      omega
  show (PyData.canLay0 (.list (rows.map rowD)) && decide (PyData.depth (.list (rows.map rowD)) ≤ 64)) = true
  rw [Bool.and_eq_true]
  have := h2 rows
  exact ⟨by rw [PyData.canLay0]; exact h1 rows, decide_eq_true (by rw [PyData.depth]; omega)⟩
end My

namespace My
open PySem PySem.Spec PyProof.Rows L2 Pre
/-! ### min and max of a list of pairs of whole numbers -/
def pairD (p : Int × Int) : PyData := .tuple [.int p.1, .int p.2]
def ltP2 (p q : Int × Int) : Prop := p.1 < q.1 ∨ (p.1 = q.1 ∧ p.2 < q.2)
instance (p q : Int × Int) : Decidable (ltP2 p q) := by unfold ltP2; infer_instance
theorem pair_lt (p q : Int × Int) : PySem.W.dataLt (pairD p) (pairD q) = decide (ltP2 p q) := PySem.W.dataLt_ii p.1 p.2 q.1 q.2
theorem ltP2_trans {p q r : Int × Int} (h : ¬ ltP2 q p) (k : ¬ ltP2 r q) : ¬ ltP2 r p := by
  unfold ltP2 at *
  omega
def minP (p : Int × Int) (ps : List (Int × Int)) : Int × Int := ps.foldl (fun a y => if ltP2 y a then y else a) p
def maxP (p : Int × Int) (ps : List (Int × Int)) : Int × Int := ps.foldl (fun a y => if ltP2 a y then y else a) p
theorem minP_data : ∀ (ps : List (Int × Int)) (p : Int × Int), PySem.W.minD (pairD p) (ps.map pairD) = pairD (minP p ps)
  | [], _ => rfl
  | q :: ps, p => by
    show PySem.W.minD (if PySem.W.dataLt (pairD q) (pairD p) = true then pairD q else pairD p) (ps.map pairD) = pairD (minP (if ltP2 q p then q else p) ps)
    rw [pair_lt]
    by_cases h : ltP2 q p
    · rw [decide_eq_true h, if_pos rfl, if_pos h, minP_data ps q]
    · rw [decide_eq_false h, if_neg (by decide), if_neg h, minP_data ps p]
theorem maxP_data : ∀ (ps : List (Int × Int)) (p : Int × Int), PySem.W.maxD (pairD p) (ps.map pairD) = pairD (maxP p ps)
  | [], _ => rfl
  | q :: ps, p => by
    show PySem.W.maxD (if PySem.W.dataLt (pairD p) (pairD q) = true then pairD q else pairD p) (ps.map pairD) = pairD (maxP (if ltP2 p q then q else p) ps)
    rw [pair_lt]
    by_cases h : ltP2 p q
    · rw [decide_eq_true h, if_pos rfl, if_pos h, maxP_data ps q]
    · rw [decide_eq_false h, if_neg (by decide), if_neg h, maxP_data ps p]
theorem minP_spec : ∀ (ps : List (Int × Int)) (p : Int × Int), minP p ps ∈ p :: ps ∧ ∀ q ∈ p :: ps, ¬ ltP2 q (minP p ps)
  | [], p => ⟨List.mem_cons_self, fun q hq => by
      rw [List.mem_singleton.mp hq]
      show ¬ ltP2 p p
      unfold ltP2
      omega⟩
  | r :: ps, p => by
    show minP (if ltP2 r p then r else p) ps ∈ _ ∧ ∀ q ∈ p :: r :: ps, ¬ ltP2 q (minP (if ltP2 r p then r else p) ps)
    by_cases h : ltP2 r p
    · rw [if_pos h]
      obtain ⟨h1, h2⟩ := minP_spec ps r
      refine ⟨List.mem_cons_of_mem _ h1, fun q hq => ?_⟩
      rcases List.mem_cons.mp hq with rfl | hq
      · have := h2 r List.mem_cons_self
        exact fun z => this (by unfold ltP2 at *; omega)
      · exact h2 q hq
    · rw [if_neg h]
      obtain ⟨h1, h2⟩ := minP_spec ps p
      refine ⟨?_, fun q hq => ?_⟩
      · rcases List.mem_cons.mp h1 with e | e
        · rw [e]; exact List.mem_cons_self
        · exact List.mem_cons_of_mem _ (List.mem_cons_of_mem _ e)
      · rcases List.mem_cons.mp hq with rfl | hq
        · exact h2 q List.mem_cons_self
        · rcases List.mem_cons.mp hq with rfl | hq
          · have := h2 p List.mem_cons_self
            exact fun z => this (by unfold ltP2 at *; omega)
          · exact h2 q (List.mem_cons_of_mem _ hq)
theorem maxP_spec : ∀ (ps : List (Int × Int)) (p : Int × Int), maxP p ps ∈ p :: ps ∧ ∀ q ∈ p :: ps, ¬ ltP2 (maxP p ps) q
  | [], p => ⟨List.mem_cons_self, fun q hq => by
      rw [List.mem_singleton.mp hq]
      show ¬ ltP2 p p
      unfold ltP2
      omega⟩
  | r :: ps, p => by
    show maxP (if ltP2 p r then r else p) ps ∈ _ ∧ ∀ q ∈ p :: r :: ps, ¬ ltP2 (maxP (if ltP2 p r then r else p) ps) q
    by_cases h : ltP2 p r
    · rw [if_pos h]
      obtain ⟨h1, h2⟩ := maxP_spec ps r
      refine ⟨List.mem_cons_of_mem _ h1, fun q hq => ?_⟩
      rcases List.mem_cons.mp hq with rfl | hq
      · have := h2 r List.mem_cons_self
        exact fun z => this (by unfold ltP2 at *; omega)
      · exact h2 q hq
    · rw [if_neg h]
      obtain ⟨h1, h2⟩ := maxP_spec ps p
      refine ⟨?_, fun q hq => ?_⟩
      · rcases List.mem_cons.mp h1 with e | e
        · rw [e]; exact List.mem_cons_self
        · exact List.mem_cons_of_mem _ (List.mem_cons_of_mem _ e)
      · rcases List.mem_cons.mp hq with rfl | hq
        · exact h2 q List.mem_cons_self
        · rcases List.mem_cons.mp hq with rfl | hq
          · have := h2 p List.mem_cons_self
            exact fun z => this (by unfold ltP2 at *; omega)
          · exact h2 q (List.mem_cons_of_mem _ hq)
theorem pairs_alike (ps : List (Int × Int)) : PySem.W.AlikeAll (ps.map pairD) := by
  refine ⟨fun x hx y hy => ?_, fun x hx => ?_⟩
  · obtain ⟨p, _, rfl⟩ := List.mem_map.mp hx
    obtain ⟨q, _, rfl⟩ := List.mem_map.mp hy
    rfl
  · obtain ⟨p, _, rfl⟩ := List.mem_map.mp hx
    exact fun z => nomatch z
theorem pairs_lay : ∀ ps : List (Int × Int), PyData.canLayAll0 (ps.map pairD) = true
  | [] => rfl
  | p :: ps => by simp [PyData.canLayAll0, PyData.canLay0, pairD, pairs_lay ps]
theorem pairs_depth : ∀ ps : List (Int × Int), PyData.depthAll (ps.map pairD) ≤ 2
  | [] => by simp [PyData.depthAll]
  | p :: ps => by
    have := pairs_depth ps
    simp only [List.map_cons, PyData.depthAll, pairD, PyData.depth]
    omega
/-- a list of pairs, at a -/
def PairsAt (K : PySem.W.Frag) (H : Hp) (a : Addr) (ps : List (Int × Int)) : Prop := ∃ as : List Addr, SqL K H a (as.map V.ref) ∧ as.length = ps.length ∧ ∀ (i : Nat) (t : Addr) (p : Int × Int), as[i]? = some t → ps[i]? = some p → SqT K H t [.int p.1, .int p.2]
theorem pairs_dp {K : PySem.W.Frag} {H : Hp} : ∀ {as : List Addr} {ps : List (Int × Int)}, as.length = ps.length → (∀ (i : Nat) (t : Addr) (p : Int × Int), as[i]? = some t → ps[i]? = some p → SqT K H t [.int p.1, .int p.2]) → DpAll K H (as.map V.ref) (ps.map pairD)
  | [], [], _, _ => .nil
  | [], _ :: _, h, _ => by simp at h
  | _ :: _, [], h, _ => by simp at h
  | a :: as, p :: ps, h, k => .cons (.tup (k 0 a p rfl rfl) (.cons (.int _) (.cons (.int _) .nil))) (pairs_dp (by simpa using h) fun i t q ht hq => k (i + 1) t q (by simpa using ht) (by simpa using hq))
def rMnP (K : PySem.W.Frag) (best : Int × Int → List (Int × Int) → Int × Int) : List V → Hp → VK → Prop := fun xs H Q => ∃ (a : Addr) (p : Int × Int) (ps : List (Int × Int)), xs = [.ref a] ∧ PairsAt K H a (p :: ps) ∧ ∀ t, SqT K H t [.int (best p ps).1, .int (best p ps).2] → Q (.ref t) H
section
variable {X : Cx} {K : PySem.W.Frag}
theorem pick {H : Hp} {s : Shared} {as : List Addr} {ps : List (Int × Int)} {its : List Value} {i : Nat} {v : Value} {h' : Heap} {bs cs : List Addr} {b : Int × Int} (hl : as.length = ps.length)
    (hT : ∀ (i : Nat) (t : Addr) (p : Int × Int), as[i]? = some t → ps[i]? = some p → SqT K H t [.int p.1, .int p.2]) (rv : Vals (as.map V.ref) its) (hr : ReadsAll s.heap its (ps.map pairD) cs) (hv : its.toArray[i]? = some v) (rd : Reads h' v (pairD b) bs)
    (hk : ∀ b o, s.heap.get? b = some o → h'.get? b = some o) : ∃ t, v = .ref t ∧ SqT K H t [.int b.1, .int b.2] := by
  have hv' : its[i]? = some v := by simpa using hv
  have hil : i < its.length := (List.getElem?_eq_some_iff.mp hv').1
  have hvl := rv.length
  rw [List.length_map] at hvl
  obtain ⟨u, hu, ru⟩ := rv.get (show (as.map V.ref)[i]? = some (.ref (as[i]'(by omega))) by rw [List.getElem?_map, List.getElem?_eq_getElem (by omega)]; rfl)
  rw [hv'] at hu
  cases hu
  have hp : ps[i]? = some (ps[i]'(by omega)) := List.getElem?_eq_getElem (by omega)
  obtain ⟨ds, r1, _, _, _⟩ := PySem.W.readsAll_at hr i v hv'
  have e1 : (ps.map pairD).getD i .none = pairD (ps[i]'(by omega)) := by
    rw [List.getD_eq_getElem?_getD, List.getElem?_map, hp]
    rfl
  rw [e1] at r1
  have e2 := PySem.SeqAt.Reads.unique (pairD b) _ v _ _ (by simp [pairD, PyData.canLay0, PyData.canLayAll0]) rd (Reads.keeps hk r1)
  have e3 : b = ps[i]'(by omega) := by
    unfold pairD at e2
    injection e2 with e2
    injection e2 with e4 e5
    injection e5 with e5 _
    injection e4 with e4
    injection e5 with e5
    exact Prod.ext e4 e5
  refine ⟨as[i]'(by omega), ru, ?_⟩
  rw [e3]
  exact hT i _ _ (List.getElem?_eq_getElem (by omega)) hp
theorem k_minP (K : PySem.W.Frag) (h : X.K = K) (hc : X.calm = true) (hu : X.A.units + 65 < cLine) : CallR X (.builtin "min") (rMnP K minP) := by
  subst h
  intro pins s σ H xs us Q I r h
  obtain ⟨a, p, ps, rfl, ⟨as, hS, hl, hT⟩, q⟩ := h
  obtain ⟨its, rv, hL, _⟩ := I.list hS
  rw [Vals.ref1 r]
  obtain ⟨cs, hr⟩ := Dp.readsAll I _ _ its (pairs_dp hl hT) rv
  have hd := pairs_depth (p :: ps)
  refine PySem.W.min_list_data (I.ok.hd hc) hL.isList (show ReadsAll s.heap its.toArray.toList (pairD p :: ps.map pairD) cs by simpa using hr) (pairs_alike (p :: ps)) (by rw [List.map_cons] at hd; omega) fun i v h' tk bs hv rd hk => ?_
  rw [minP_data] at rd
  obtain ⟨t, rfl, ht⟩ := pick hl hT rv hr hv rd hk
  exact ⟨.ref t, H, I.kept hk, rfl, q t ht⟩
theorem k_maxP (K : PySem.W.Frag) (h : X.K = K) (hc : X.calm = true) (hu : X.A.units + 65 < cLine) : CallR X (.builtin "max") (rMnP K maxP) := by
  subst h
  intro pins s σ H xs us Q I r h
  obtain ⟨a, p, ps, rfl, ⟨as, hS, hl, hT⟩, q⟩ := h
  obtain ⟨its, rv, hL, _⟩ := I.list hS
  rw [Vals.ref1 r]
  obtain ⟨cs, hr⟩ := Dp.readsAll I _ _ its (pairs_dp hl hT) rv
  have hd := pairs_depth (p :: ps)
  refine PySem.W.max_list_data (I.ok.hd hc) hL.isList (show ReadsAll s.heap its.toArray.toList (pairD p :: ps.map pairD) cs by simpa using hr) (pairs_alike (p :: ps)) (by rw [List.map_cons] at hd; omega) fun i v h' tk bs hv rd hk => ?_
  rw [maxP_data] at rd
  obtain ⟨t, rfl, ht⟩ := pick hl hT rv hr hv rd hk
  exact ⟨.ref t, H, I.kept hk, rfl, q t ht⟩
theorem huM {k : Nat} {A : Around} (r : Room k A) : A.units + 65 < cLine := by have := r.un; omega
end
end My

namespace My
open PySem PySem.Spec PyProof.Rows L2 Pre
/-! ### data in a heap: what is told of a value by lists and tuples that stand there (none of them frozen) -/
mutual
inductive Dt (H : Hp) : V → PyData → Prop
  | non : Dt H .non .none
  | bl (b : Bool) : Dt H (.bl b) (.bool b)
  | int (n : Int) : Dt H (.int n) (.int n)
  | str (x : Str) : Dt H (.str x) (.str x)
  | lst {a : Addr} {xs : List V} {ds : List PyData} : H a = some (.lst xs) → DtA H xs ds → Dt H (.ref a) (.list ds)
  | tup {a : Addr} {xs : List V} {ds : List PyData} : H a = some (.tup xs) → DtA H xs ds → Dt H (.ref a) (.tuple ds)
inductive DtA (H : Hp) : List V → List PyData → Prop
  | nil : DtA H [] []
  | cons {v : V} {vs : List V} {d : PyData} {ds : List PyData} : Dt H v d → DtA H vs ds → DtA H (v :: vs) (d :: ds)
end
mutual
theorem Dt.same {H H' : Hp} (s : Same H H') : ∀ {d : PyData} {v : V}, Dt H v d → Dt H' v d
  | .none, _, h => by cases h; exact .non
  | .bool _, _, h => by cases h; exact .bl _
  | .int _, _, h => by cases h; exact .int _
  | .str _, _, h => by cases h; exact .str _
  | .list _, _, h => by cases h with | lst a b => exact .lst (s _ _ a) (DtA.same s b)
  | .tuple _, _, h => by cases h with | tup a b => exact .tup (s _ _ a) (DtA.same s b)
  | .dict _, _, h => nomatch h
theorem DtA.same {H H' : Hp} (s : Same H H') : ∀ {ds : List PyData} {vs : List V}, DtA H vs ds → DtA H' vs ds
  | [], _, h => by cases h; exact .nil
  | _ :: _, _, h => by cases h with | cons a b => exact .cons (Dt.same s a) (DtA.same s b)
end
mutual
theorem Dt.dp {K : PySem.W.Frag} {H : Hp} : ∀ {d : PyData} {v : V}, Dt H v d → Dp K H v d
  | .none, _, h => by cases h; exact .non
  | .bool _, _, h => by cases h; exact .bl _
  | .int _, _, h => by cases h; exact .int _
  | .str _, _, h => by cases h; exact .str _
  | .list _, _, h => by cases h with | lst a b => exact .lst (.inl (.inl a)) (DtA.dp b)
  | .tuple _, _, h => by cases h with | tup a b => exact .tup (.inl (.inl a)) (DtA.dp b)
  | .dict _, _, h => nomatch h
theorem DtA.dp {K : PySem.W.Frag} {H : Hp} : ∀ {ds : List PyData} {vs : List V}, DtA H vs ds → DpAll K H vs ds
  | [], _, h => by cases h; exact .nil
  | _ :: _, _, h => by cases h with | cons a b => exact .cons (Dt.dp a) (DtA.dp b)
end
theorem DtA.len {H : Hp} : ∀ {ds : List PyData} {vs : List V}, DtA H vs ds → vs.length = ds.length
  | [], _, h => by cases h; rfl
  | _ :: _, _, h => by cases h with | cons a b => rw [List.length_cons, List.length_cons, DtA.len b]
theorem DtA.app {H : Hp} : ∀ {ds : List PyData} {vs : List V} {es : List PyData} {us : List V}, DtA H vs ds → DtA H us es → DtA H (vs ++ us) (ds ++ es)
  | [], _, _, _, h, k => by cases h; exact k
  | _ :: _, _, _, _, h, k => by cases h with | cons a b => exact .cons a (DtA.app b k)
theorem DtA.get {H : Hp} : ∀ {ds : List PyData} {vs : List V} {i : Nat} {d : PyData}, DtA H vs ds → ds[i]? = some d → ∃ v, vs[i]? = some v ∧ Dt H v d
  | [], _, _, _, _, k => by simp at k
  | _ :: _, _, 0, _, h, k => by
    cases h with
    | cons a b => rw [List.getElem?_cons_zero] at k; cases k; exact ⟨_, rfl, a⟩
  | _ :: _, _, i + 1, _, h, k => by
    cases h with
    | cons a b => rw [List.getElem?_cons_succ] at k; rw [List.getElem?_cons_succ]; exact DtA.get b k
theorem DtA.got {H : Hp} {ds : List PyData} {vs : List V} {i : Nat} {v : V} (h : DtA H vs ds) (k : vs[i]? = some v) : ∃ d, ds[i]? = some d ∧ Dt H v d := by
  have hi := (List.getElem?_eq_some_iff.mp k).1
  have hl := h.len
  obtain ⟨u, hu, d⟩ := h.get (List.getElem?_eq_getElem (show i < ds.length by omega))
  rw [k] at hu
  cases hu
  exact ⟨_, List.getElem?_eq_getElem (by omega), d⟩
theorem DtA.take {H : Hp} : ∀ {ds : List PyData} {vs : List V} (n : Nat), DtA H vs ds → DtA H (vs.take n) (ds.take n)
  | _, _, 0, _ => .nil
  | [], _, _ + 1, h => by cases h; exact .nil
  | _ :: _, _, n + 1, h => by cases h with | cons a b => exact .cons a (DtA.take n b)
theorem DtA.drop {H : Hp} : ∀ {ds : List PyData} {vs : List V} (n : Nat), DtA H vs ds → DtA H (vs.drop n) (ds.drop n)
  | _, _, 0, h => h
  | [], _, _ + 1, h => by cases h; exact .nil
  | _ :: _, _, n + 1, h => by cases h with | cons a b => exact DtA.drop n b
theorem DtA.rev {H : Hp} : ∀ {ds : List PyData} {vs : List V}, DtA H vs ds → DtA H vs.reverse ds.reverse
  | [], _, h => by cases h; exact .nil
  | _ :: _, _, h => by
    cases h with
    | cons a b => rw [List.reverse_cons, List.reverse_cons]; exact DtA.app (DtA.rev b) (.cons a .nil)
theorem DtA.ints {H : Hp} : ∀ ns : List Int, DtA H (ns.map V.int) (ns.map PyData.int)
  | [] => .nil
  | n :: r => .cons (.int n) (DtA.ints r)
theorem DtA.intsE {H : Hp} : ∀ {ns : List Int} {vs : List V}, DtA H vs (ns.map PyData.int) → vs = ns.map V.int
  | [], _, h => by cases h; rfl
  | n :: r, _, h => by
    cases h with
    | cons a b => cases a; rw [DtA.intsE b]; rfl
/-- a list of whole numbers -/
theorem Dt.ints {H : Hp} {a : Addr} {ns : List Int} (h : H a = some (.lst (ns.map V.int))) : Dt H (.ref a) (rowD ns) := .lst h (DtA.ints ns)
theorem Dt.intsE {H : Hp} {v : V} {ns : List Int} (h : Dt H v (rowD ns)) : ∃ a, v = .ref a ∧ H a = some (.lst (ns.map V.int)) := by
  unfold rowD at h
  cases h with
  | lst a b => rw [DtA.intsE b] at a; exact ⟨_, rfl, a⟩
theorem Dt.listE {H : Hp} {v : V} {ds : List PyData} (h : Dt H v (.list ds)) : ∃ a xs, v = .ref a ∧ H a = some (.lst xs) ∧ DtA H xs ds := by
  cases h with
  | lst a b => exact ⟨_, _, rfl, a, b⟩
theorem Dt.tupE {H : Hp} {v : V} {ds : List PyData} (h : Dt H v (.tuple ds)) : ∃ a xs, v = .ref a ∧ H a = some (.tup xs) ∧ DtA H xs ds := by
  cases h with
  | tup a b => exact ⟨_, _, rfl, a, b⟩
/-! ### what is owned (and changes) is left out -/
def rs (S : List Addr) (H : Hp) : Hp := fun a => if a ∈ S then none else H a
theorem rs_nil (H : Hp) : rs [] H = H := by funext a; simp [rs]
theorem rs_in {S : List Addr} {H : Hp} {a : Addr} (h : a ∈ S) : rs S H a = none := if_pos h
theorem rs_out {S : List Addr} {H : Hp} {a : Addr} (h : a ∉ S) : rs S H a = H a := if_neg h
theorem rs_some {S : List Addr} {H : Hp} {a : Addr} {o : HO} (h : rs S H a = some o) : a ∉ S ∧ H a = some o := by
  by_cases m : a ∈ S
  · rw [rs_in m] at h; cases h
  · rw [rs_out m] at h; exact ⟨m, h⟩
theorem rs_le {S : List Addr} {H : Hp} : Same (rs S H) H := fun _ _ h => (rs_some h).2
theorem rs_same {S : List Addr} {H H' : Hp} (s : Same H H') : Same (rs S H) (rs S H') := fun b o h => by
  obtain ⟨m, e⟩ := rs_some h
  rw [rs_out m]
  exact s b o e
theorem rs_upd {S : List Addr} {H : Hp} {p : Addr} {o : HO} (h : p ∈ S) : rs S (L2.upd H p o) = rs S H := by
  funext a
  by_cases m : a ∈ S
  · rw [rs_in m, rs_in m]
  · rw [rs_out m, rs_out m, upd_ne (fun e => m (by rw [e]; exact h))]
/-- all of them stand -/
def Has (S : List Addr) (H : Hp) : Prop := ∀ a ∈ S, ∃ o, H a = some o
theorem Has.nil {H : Hp} : Has [] H := fun _ h => nomatch h
theorem Has.same {S : List Addr} {H H' : Hp} (h : Has S H) (s : Same H H') : Has S H' := fun a m => by
  obtain ⟨o, e⟩ := h a m
  exact ⟨o, s a o e⟩
theorem Has.cons {S : List Addr} {H : Hp} {p : Addr} {o : HO} (h : Has S H) (e : H p = some o) : Has (p :: S) H := fun a m => by
  rcases List.mem_cons.mp m with rfl | m
  · exact ⟨o, e⟩
  · exact h a m
theorem Has.upd {S : List Addr} {H : Hp} {p : Addr} {o : HO} (h : Has S H) : Has S (L2.upd H p o) := fun a m => by
  by_cases e : a = p
  · subst e; exact ⟨o, upd_same⟩
  · rw [upd_ne e]; exact h a m
theorem Has.out {S : List Addr} {H : Hp} {p : Addr} (h : Has S H) (n : H p = none) : p ∉ S := fun m => by
  obtain ⟨o, e⟩ := h p m
  rw [n] at e
  cases e
theorem GenAt.has {H : Hp} {g : Addr} {n : Nat} (h : GenAt H g n) : Has [g] H := by
  obtain ⟨x, y, z, e, _⟩ := h
  exact Has.nil.cons e
/-- all but what is owned stays -/
def Sta (S : List Addr) (H H' : Hp) : Prop := Same (rs S H) (rs S H')
theorem Sta.of {S : List Addr} {H H' : Hp} (s : Same H H') : Sta S H H' := rs_same s
theorem Sta.trans {S : List Addr} {H H1 H2 : Hp} (a : Sta S H H1) (b : Sta S H1 H2) : Sta S H H2 := fun c o h => b c o (a c o h)
theorem Sta.at_ {S : List Addr} {H H' : Hp} (s : Sta S H H') {a : Addr} {o : HO} (m : a ∉ S) (h : H a = some o) : H' a = some o := (rs_some (s a o (by rw [rs_out m]; exact h))).2
theorem Sta.upd {S : List Addr} {H : Hp} {p : Addr} {o : HO} (h : p ∈ S) : Sta S H (L2.upd H p o) := fun c u e => by rw [rs_upd h]; exact e
theorem Sta.more {S : List Addr} {H H' : Hp} {p : Addr} (s : Sta S H H') : Sta (p :: S) H H' := fun c o h => by
  obtain ⟨m, e⟩ := rs_some h
  have m2 : c ∉ S := fun z => m (List.mem_cons_of_mem _ z)
  rw [rs_out m]
  exact s.at_ m2 e
theorem But.sta {g : Addr} {H H' : Hp} (b : But g H H') : Sta [g] H H' := fun c o h => by
  obtain ⟨m, e⟩ := rs_some h
  rw [rs_out m]
  exact b c o (fun z => m (by rw [z]; exact List.mem_cons_self)) e
/-- what was there ahead of a new thing does not speak of it -/
theorem under {S : List Addr} {H H' : Hp} {p : Addr} (n : H p = none) (s : Same H H') : Same (rs S H) (rs (p :: S) H') := fun c o h => by
  obtain ⟨m, e⟩ := rs_some h
  rw [rs_out (fun z => by
    rcases List.mem_cons.mp z with rfl | z
    · rw [n] at e; cases e
    · exact m z)]
  exact s c o e
theorem over {S : List Addr} {H : Hp} {p : Addr} : Same (rs (p :: S) H) (rs S H) := fun c o h => by
  obtain ⟨m, e⟩ := rs_some h
  rw [rs_out (fun z => m (List.mem_cons_of_mem _ z))]
  exact e
/-! ### a new list, a new tuple, a sum of lists -/
theorem dt_new {S : List Addr} {H : Hp} {p : Addr} {xs : List V} {ds : List PyData} (hS : Has S H) (n : H p = none) (h : DtA (rs S H) xs ds) : Dt (rs S (upd H p (.lst xs))) (.ref p) (.list ds) :=
  .lst (by rw [rs_out (hS.out n)]; exact upd_same) (h.same (rs_same (same_upd n)))
theorem dt_newT {S : List Addr} {H : Hp} {p : Addr} {xs : List V} {ds : List PyData} (hS : Has S H) (n : H p = none) (h : DtA (rs S H) xs ds) : Dt (rs S (upd H p (.tup xs))) (.ref p) (.tuple ds) :=
  .tup (by rw [rs_out (hS.out n)]; exact upd_same) (h.same (rs_same (same_upd n)))
theorem d_lst {S : List Addr} {H : Hp} {xs : List V} {ds : List PyData} {Q : VK} (hS : Has S H) (h : DtA (rs S H) xs ds) (hz : xs.length ≤ sizeLine) (k : ∀ p H', Same H H' → H p = none → H' p = some (.lst xs) → Dt (rs S H') (.ref p) (.list ds) → Q (.ref p) H') : xs.length ≤ sizeLine ∧ ∀ p, H p = none → Q (.ref p) (upd H p (.lst xs)) :=
  ⟨hz, fun p n => k p _ (same_upd n) n upd_same (dt_new hS n h)⟩
theorem d_tup {S : List Addr} {H : Hp} {xs : List V} {ds : List PyData} {Q : VK} (hS : Has S H) (h : DtA (rs S H) xs ds) (hz : xs.length ≤ sizeLine) (k : ∀ p H', Same H H' → H p = none → H' p = some (.tup xs) → Dt (rs S H') (.ref p) (.tuple ds) → Q (.ref p) H') : xs.length ≤ sizeLine ∧ ∀ p, H p = none → Q (.ref p) (upd H p (.tup xs)) :=
  ⟨hz, fun p n => k p _ (same_upd n) n upd_same (dt_newT hS n h)⟩
theorem d_cat {S : List Addr} {H : Hp} {v w : V} {ds es : List PyData} {Q : VK} (hS : Has S H) (hv : Dt (rs S H) v (.list ds)) (hw : Dt (rs S H) w (.list es)) (hz : ds.length + es.length ≤ sizeLine) (k : ∀ p H', Same H H' → H p = none → Dt (rs S H') (.ref p) (.list (ds ++ es)) → Q (.ref p) H') : rCat v w H Q := by
  obtain ⟨a, xs, rfl, ha, hx⟩ := hv.listE
  obtain ⟨b, ys, rfl, hb, hy⟩ := hw.listE
  exact ⟨a, b, xs, ys, rfl, rfl, (rs_some ha).2, (rs_some hb).2, by rw [hx.len, hy.len]; exact hz, fun p n => k p _ (same_upd n) n (dt_new hS n (hx.app hy))⟩
theorem d_eq {K : PySem.W.Frag} {H : Hp} {v w : V} {d e : PyData} {Q : VK} (hv : Dt H v d) (hw : Dt H w e) (sd : SeqAt.shaped d = true) (se : SeqAt.shaped e = true) (q : Q (.bl (PyData.eqv d e)) H) : rEqD K v w H Q := ⟨d, e, hv.dp, hw.dp, sd, se, q⟩
theorem d_ne {K : PySem.W.Frag} {H : Hp} {v w : V} {d e : PyData} {Q : VK} (hv : Dt H v d) (hw : Dt H w e) (sd : SeqAt.shaped d = true) (se : SeqAt.shaped e = true) (q : Q (.bl (!PyData.eqv d e)) H) : rNeD K v w H Q := ⟨d, e, hv.dp, hw.dp, sd, se, q⟩
/-! ### comprehensions -/
/-- what comes of an item: nothing, or data -/
def Out (S : List Addr) (H : Hp) : Option PyData → Option V → Prop
  | some d, some v => Dt (rs S H) v d
  | none, none => True
  | _, _ => False
def accP (S : List Addr) (H1 : Hp) (D : Addr) (ds : List PyData) (H : Hp) : Prop := Same H1 H ∧ ∃ ys, H D = some (.lst ys) ∧ DtA (rs (D :: S) H) ys ds
theorem acc_step {S : List Addr} {H1 : Hp} {D : Addr} {sel : List (Option PyData)} {i : Nat} {o : Option PyData} {H H4 : Hp} (nD : H1 D = none) (ho : sel[i]? = some o) (hz : sel.length < sizeLine) (h : accP S H1 D ((sel.take i).filterMap id) H) (s4 : Same H H4) :
    ∀ y : Option V, Out (D :: S) H4 o y → match y with
      | some v => ∃ acc, H4 D = some (.lst acc) ∧ acc.length < sizeLine ∧ accP S H1 D ((sel.take (i + 1)).filterMap id) (upd H4 D (.lst (acc ++ [v])))
      | none => accP S H1 D ((sel.take (i + 1)).filterMap id) H4 := by
  obtain ⟨s, ys, hD, hy⟩ := h
  intro y hO
  rw [take_fm ho]
  cases o with
  | none =>
    cases y with
    | none => exact ⟨s.trans s4, ys, s4 _ _ hD, by simpa using hy.same (rs_same s4)⟩
    | some v => exact absurd hO (fun z => z)
  | some d =>
    cases y with
    | none => exact absurd hO (fun z => z)
    | some v =>
      refine ⟨ys, s4 _ _ hD, ?_, same_over nD (s.trans s4), ys ++ [v], upd_same, ?_⟩
      · rw [hy.len]
        exact Nat.lt_of_le_of_lt (fm_len sel i) hz
      · rw [rs_upd List.mem_cons_self]
        exact (hy.same (rs_same s4)).app (.cons hO .nil)
theorem acc_end {S : List Addr} {H1 : Hp} {D : Addr} {ds : List PyData} {H : Hp} (hS : Has S H1) (nD : H1 D = none) (h : accP S H1 D ds H) : Dt (rs S H) (.ref D) (.list ds) := by
  obtain ⟨s, ys, hD, hy⟩ := h
  exact .lst (by rw [rs_out (hS.out nD)]; exact hD) (hy.same over)
theorem lc_dR {lo : Int} {n : Nat} {j : Nat} {tt : TT} {te : TE} {vs : List Nat} {σ : L2.St} {H1 : Hp} {D : Addr} {Qd : Hp → Prop} {S : List Addr} (hS : Has S H1) (sel : List (Option PyData)) (nD : H1 D = none) (hlen : sel.length = n) (hz : n < sizeLine)
    (hw : ∀ x, wipe ((wipe σ vs).set j (some x)) vs = wipe σ vs)
    (hs : ∀ (i : Nat) (o : Option PyData) (H' : Hp), i < n → sel[i]? = some o → Same H1 H' → Has (D :: S) H' → ∀ Qt : Option V → Hp → Prop, (∀ y H'', Same H' H'' → Out (D :: S) H'' o y → Qt y H'') →
      tt ((wipe σ vs).set j (some (.int (lo + (i : Int))))) H' fun b H3 => if b = true then te ((wipe σ vs).set j (some (.int (lo + (i : Int))))) H3 fun y H4 => Qt (some y) H4 else Qt none H3)
    (hd : ∀ H', Same H1 H' → H' D ≠ none → Dt (rs S H') (.ref D) (.list (sel.filterMap id)) → Qd H') :
    ∃ W : Nat → Nat → Hp → Prop, (∃ m, W 0 m (upd H1 D (.lst []))) ∧ ∀ i m H, W i m H →
      ((Itr lo n).stop i H ∧ Qd H) ∨ ((Itr lo n).go i H ∧ ∃ Nx : Hp → Prop, (∀ H', Nx H' → ∃ m', m' < m ∧ W (i + 1) m' H') ∧ ∀ x H', (Itr lo n).yld i H x H' → gName j x (wipe σ vs) H' fun σ2 H2 => wipe σ2 vs = wipe σ vs ∧ tt σ2 H2 fun b H3 =>
        if b = true then te σ2 H3 fun y H4 => ∃ acc, H4 D = some (.lst acc) ∧ acc.length < sizeLine ∧ Nx (upd H4 D (.lst (acc ++ [y]))) else Nx H3) := by
  refine lc_range (lo := lo) (n := n) (fun i H => accP S H1 D ((sel.take i).filterMap id) H) ⟨same_upd nD, [], upd_same, .nil⟩ ?_ ?_
  · rintro i H hi h
    refine ⟨hw _, ?_⟩
    have ho : sel[i]? = some (sel[i]'(by omega)) := List.getElem?_eq_getElem (by omega)
    obtain ⟨s, ys, hD, hy⟩ := id h
    exact hs i _ H hi ho s ((hS.same s).cons hD) (fun o H4 => match o with
      | some y => ∃ acc, H4 D = some (.lst acc) ∧ acc.length < sizeLine ∧ accP S H1 D ((sel.take (i + 1)).filterMap id) (upd H4 D (.lst (acc ++ [y])))
      | none => accP S H1 D ((sel.take (i + 1)).filterMap id) H4) fun y H4 s4 hO => acc_step nD ho (by omega) h s4 y hO
  · rintro H h
    rw [← hlen, List.take_length] at h
    refine hd H h.1 ?_ (acc_end hS nD h)
    obtain ⟨_, ys, hD, _⟩ := h
    rw [hD]
    exact fun z => nomatch z
theorem lc_dL {K : PySem.W.Frag} {a : Addr} {xs : List V} {j : Nat} {tt : TT} {te : TE} {vs : List Nat} {σ : L2.St} {H1 : Hp} {D : Addr} {Qd : Hp → Prop} {S : List Addr} (hS : Has S H1) (sel : List (Option PyData)) (nD : H1 D = none) (hA : SqL K H1 a xs) (hlen : sel.length = xs.length) (hz : xs.length < sizeLine)
    (hw : ∀ x, wipe ((wipe σ vs).set j (some x)) vs = wipe σ vs)
    (hs : ∀ (i : Nat) (x : V) (o : Option PyData) (H' : Hp), xs[i]? = some x → sel[i]? = some o → Same H1 H' → Has (D :: S) H' → ∀ Qt : Option V → Hp → Prop, (∀ y H'', Same H' H'' → Out (D :: S) H'' o y → Qt y H'') →
      tt ((wipe σ vs).set j (some x)) H' fun b H3 => if b = true then te ((wipe σ vs).set j (some x)) H3 fun y H4 => Qt (some y) H4 else Qt none H3)
    (hd : ∀ H', Same H1 H' → H' D ≠ none → Dt (rs S H') (.ref D) (.list (sel.filterMap id)) → Qd H') :
    ∃ W : Nat → Nat → Hp → Prop, (∃ m, W 0 m (upd H1 D (.lst []))) ∧ ∀ i m H, W i m H →
      ((Itl K a).stop i H ∧ Qd H) ∨ ((Itl K a).go i H ∧ ∃ Nx : Hp → Prop, (∀ H', Nx H' → ∃ m', m' < m ∧ W (i + 1) m' H') ∧ ∀ x H', (Itl K a).yld i H x H' → gName j x (wipe σ vs) H' fun σ2 H2 => wipe σ2 vs = wipe σ vs ∧ tt σ2 H2 fun b H3 =>
        if b = true then te σ2 H3 fun y H4 => ∃ acc, H4 D = some (.lst acc) ∧ acc.length < sizeLine ∧ Nx (upd H4 D (.lst (acc ++ [y]))) else Nx H3) := by
  refine lc_list (K := K) (a := a) (xs := xs) (fun i H => accP S H1 D ((sel.take i).filterMap id) H) ⟨same_upd nD, [], upd_same, .nil⟩ (fun i H _ p => p.1.seq hA) ?_ ?_
  · rintro i x H hx h
    refine ⟨hw _, ?_⟩
    have hi := (List.getElem?_eq_some_iff.mp hx).1
    have ho : sel[i]? = some (sel[i]'(by omega)) := List.getElem?_eq_getElem (by omega)
    obtain ⟨s, ys, hD, hy⟩ := id h
    exact hs i x _ H hx ho s ((hS.same s).cons hD) (fun o H4 => match o with
      | some y => ∃ acc, H4 D = some (.lst acc) ∧ acc.length < sizeLine ∧ accP S H1 D ((sel.take (i + 1)).filterMap id) (upd H4 D (.lst (acc ++ [y])))
      | none => accP S H1 D ((sel.take (i + 1)).filterMap id) H4) fun y H4 s4 hO => acc_step nD ho (by omega) h s4 y hO
  · rintro H h
    rw [← hlen, List.take_length] at h
    refine hd H h.1 ?_ (acc_end hS nD h)
    obtain ⟨_, ys, hD, _⟩ := h
    rw [hD]
    exact fun z => nomatch z
/-- maps: each item's data -/
theorem sel_map {α : Type} (l : List α) (f : α → PyData) : (l.map fun x => some (f x)).filterMap id = l.map f := by
  induction l with
  | nil => rfl
  | cons x l ih =>
    show f x :: (l.map fun x => some (f x)).filterMap id = _
    rw [ih]
    rfl
/-- over any walk -/
theorem lc_dW {J : It} {n : Nat} {G : Hp → Prop} {Y : Nat → Hp → V → Hp → Prop} (w : Walk J n G Y) {g : TG} {tt : TT} {te : TE} {vs : List Nat} {σ : L2.St} {H1 : Hp} {D : Addr} {Qd : Hp → Prop} {S : List Addr} (hS : Has S H1) (sel : List (Option PyData)) (nD : H1 D = none) (hlen : sel.length = n) (hz : n < sizeLine)
    (hG : ∀ H', Same H1 H' → G H')
    (hs : ∀ (i : Nat) (o : Option PyData) (H0 : Hp) (x : V) (H' : Hp), i < n → sel[i]? = some o → Same H1 H0 → Has (D :: S) H0 → Y i H0 x H' → ∀ Qt : Option V → Hp → Prop, (∀ y H'', Same H0 H'' → Out (D :: S) H'' o y → Qt y H'') →
      g x (wipe σ vs) H' fun σ2 H2 => wipe σ2 vs = wipe σ vs ∧ tt σ2 H2 fun b H3 => if b = true then te σ2 H3 fun y H4 => Qt (some y) H4 else Qt none H3)
    (hd : ∀ H', Same H1 H' → H' D ≠ none → Dt (rs S H') (.ref D) (.list (sel.filterMap id)) → Qd H') :
    ∃ W : Nat → Nat → Hp → Prop, (∃ m, W 0 m (upd H1 D (.lst []))) ∧ ∀ i m H, W i m H →
      (J.stop i H ∧ Qd H) ∨ (J.go i H ∧ ∃ Nx : Hp → Prop, (∀ H', Nx H' → ∃ m', m' < m ∧ W (i + 1) m' H') ∧ ∀ x H', J.yld i H x H' → g x (wipe σ vs) H' fun σ2 H2 => wipe σ2 vs = wipe σ vs ∧ tt σ2 H2 fun b H3 =>
        if b = true then te σ2 H3 fun y H4 => ∃ acc, H4 D = some (.lst acc) ∧ acc.length < sizeLine ∧ Nx (upd H4 D (.lst (acc ++ [y]))) else Nx H3) := by
  refine lc_it w (fun i H => accP S H1 D ((sel.take i).filterMap id) H) ⟨same_upd nD, [], upd_same, .nil⟩ (fun i H _ p => hG H p.1) ?_ ?_
  · rintro i x H H' hi h y
    have ho : sel[i]? = some (sel[i]'(by omega)) := List.getElem?_eq_getElem (by omega)
    obtain ⟨s, ys, hD, hy⟩ := id h
    exact hs i _ H x H' hi ho s ((hS.same s).cons hD) y (fun o H4 => match o with
      | some y => ∃ acc, H4 D = some (.lst acc) ∧ acc.length < sizeLine ∧ accP S H1 D ((sel.take (i + 1)).filterMap id) (upd H4 D (.lst (acc ++ [y])))
      | none => accP S H1 D ((sel.take (i + 1)).filterMap id) H4) fun y H4 s4 hO => acc_step nD ho (by omega) h s4 y hO
  · rintro H h
    rw [← hlen, List.take_length] at h
    refine hd H h.1 ?_ (acc_end hS nD h)
    obtain ⟨_, ys, hD, _⟩ := h
    rw [hD]
    exact fun z => nomatch z
theorem dt_pairs {K : PySem.W.Frag} {H : Hp} {a : Addr} {ps : List (Int × Int)} (h : Dt H (.ref a) (.list (ps.map pairD))) : PairsAt K H a ps := by
  cases h with
  | lst ha hx =>
    rename_i xs
    have key : ∀ (ps : List (Int × Int)) (xs : List V), DtA H xs (ps.map pairD) → ∃ as : List Addr, xs = as.map V.ref ∧ as.length = ps.length ∧ ∀ (i : Nat) (t : Addr) (p : Int × Int), as[i]? = some t → ps[i]? = some p → SqT K H t [.int p.1, .int p.2] := fun ps => by
      induction ps with
      | nil => intro xs h; cases h; exact ⟨[], rfl, rfl, fun i t p ht => by simp at ht⟩
      | cons p ps ih =>
        intro xs h
        cases h with
        | cons b c =>
          obtain ⟨as, rfl, hl, k⟩ := ih _ c
          obtain ⟨t, ys, rfl, ht, hy⟩ := (show Dt H _ (.tuple [.int p.1, .int p.2]) from b).tupE
          rw [DtA.intsE (ns := [p.1, p.2]) hy] at ht
          refine ⟨t :: as, rfl, by rw [List.length_cons, List.length_cons, hl], fun i u q hu hq => ?_⟩
          cases i with
          | zero =>
            rw [List.getElem?_cons_zero] at hu hq
            cases hu
            cases hq
            exact .inl (.inl ht)
          | succ i =>
            rw [List.getElem?_cons_succ] at hu hq
            exact k i u q hu hq
    obtain ⟨as, rfl, hl, k⟩ := key ps xs hx
    exact ⟨as, .inl (.inl ha), hl, k⟩
end My

namespace My
open PySem PySem.Spec PyProof.Rows L2 Pre
/-! ### set(a list of whole numbers) -/
/-- a set just made -/
abbrev sE (w : World) : Obj := { cls := .type "set", dict := none, data := .set #[] 0 (.fresh 0 0 (!w.params.followText "set-order")) }
section
variable {P : Program} {w : World} {A : Around} {E : Value → Shared → Prop} {s : Shared}
/-- all that stood ahead stands -/
def Ahead (h h' : Heap) : Prop := ∀ b o, h.get? b = some o → h'.get? b = some o
set_option maxHeartbeats 8000000 in
theorem set_of_list {l : Addr} {its : Array Value} (ns : List Int) {Q : Value → Shared → Prop} (calm : A.handled = none) (lst : s.heap.IsList l its) (are : IntsAre its.toList ns) (few : ns.length + 1 < scanBound)
    (fin : ∀ (h' : Heap) (tk c : Nat), SetR w h' s.heap.objs.size (fun j => decide (j ∈ ns)) c → c ≤ ns.length → Ahead s.heap h' → Q (.ref s.heap.objs.size) { s with heap := h', toks := tk }) :
    wpAny (model P w) A (call (.type "set") [.ref l]) Q E s := by
  have size : its.size = ns.length := (Array.length_toList (xs := its)).symm.trans are.length
  obtain ⟨c0, tl, hmro⟩ := F.called_set.mro; have hmade := F.called_set.made; have hsub := F.called_set.sub; have hlt := F.called_set.notType; have hcr := F.called_set.canCreate; have hct := F.typeCall_set_1 (.ref l)
  refine wpAny_call (codeAny_of_tree ?_); show wpAny _ _ (callAny (.type "set") _) _ _ _
  refine wpAny_pure ⟨Code.quiet_builtin _ (by decide +kernel), codeAny_builtin F.entry_type_call ?_⟩; rw [Around.under_plain (weight_type_call_type "set" [.ref l] []) rfl]
  repeat (any_goals (first | assumption | wp_step))
  let top := s.heap.objs.size
  let h1 := s.heap.push (sE w)
  refine codeAny_mono (code_set_led1 (.ref l) (E := E) (Q₁ := fun x t => x = .ref top ∧ t = { s with heap := h1 }) ⟨rfl, rfl⟩) fun r t hr => ?_
  rcases r with e | fl
  · exact hr
  cases fl with
  | ret x =>
    obtain ⟨rfl, rfl⟩ := hr
    have new : h1.get? top = some (sE w) := Heap.get?_push_size _ rfl
    have isSet : Shared.TypeIs { s with heap := h1 } (.ref top) "set" := ⟨_, new, rfl⟩
    have hli := F.called_set.init.lookup; have hbi := F.called_set.init.bind (.ref top)
    repeat (any_goals (first | assumption | wp_step))
    refine codeAny_mono (codeAny_call_builtin (R := wants (fun y u => y = .none ∧ ∃ h' tk c, u = { s with heap := h', toks := tk } ∧ SetR w h' top (fun j => decide (j ∈ ns)) c ∧ c ≤ ns.length ∧ Ahead s.heap h') E) F.called_set.init.plain F.entry_set_init (check_set_init_1 isSet ?_)) fun r2 u hu => ?_
    · obtain ⟨⟨oc, od, ot, os⟩, at_l, cl, nl, dl⟩ := lst
      simp only at cl dl; subst cl; subst dl
      have at1 : h1.get? l = some { cls := .type "list", dict := od, data := .seq its nl, slots := os } := Heap.get?_push_of_some _ at_l
      have n1 := F.sub_list_set; have n2 := F.sub_list_frozenset; have n3 : (Value.type "list" == Value.type "dict") = false := by decide
      have lst1 : h1.IsList l its := ⟨_, at1, rfl, nl, rfl⟩
      unfold Builtin.«set.__init__» noKeywords Builtin.Frozenset.updateFrom; generalize eI : pyIter = I
      wp_walk
      subst eI
      refine wpAny_pyIter_list lst1 ?_; refine wpAny_bind (wpAny_runValue ?_)
      have lt := Heap.lt_size at_l
      have calm3 : A.in1.in1.in1.handled = none := by simp [calm]
      have hz : h1.objs.size = top + 1 := Heap.size_push ..
      have apart : l ≠ h1.objs.size := by rw [hz]; exact Nat.ne_of_lt (Nat.lt_succ_of_lt lt)
      have notin : top ∉ [h1.objs.size, l] := by
        rw [hz]; intro z
        rcases List.mem_cons.mp z with z | z
        · omega
        · have := List.mem_singleton.mp z; exact Nat.lt_irrefl l (by rw [← this] at lt ⊢; exact lt)
      have each : ∀ (i : Nat) (v : Value), its[i]? = some v → ∃ k t, ns[i]? = some k ∧ v = .int k t := fun i v hv => by
        have hi := (Array.getElem?_eq_some_iff.mp hv).1; rw [size] at hi
        obtain ⟨t, e⟩ := IntsAre.int_at are i v ((Array.getElem?_toList (xs := its)).trans hv)
        exact ⟨ns[i], t, List.getElem?_eq_getElem hi, by rw [e, List.getD_eq_getElem?_getD, List.getElem?_eq_getElem hi]; rfl⟩
      refine set_update_ints ((Walks.list calm3 _ l apart its).toS) top notin ns size few each (its.size - 0) 0 _ (by omega) (Nat.zero_le _) ⟨⟨_, Heap.get?_push_size _ rfl, rfl, rfl⟩, (lst1.push _)⟩ ⟨0, Nat.le_refl 0, setR_new_at (Heap.get?_push_of_some _ new)⟩ fun s2 c mv hc set2 => ?_
      have es : s2 = { s with heap := s2.heap, toks := s2.toks } := by
        obtain ⟨a1, a2, a3, a4, a5⟩ := s2
        obtain rfl : a2 = s.gens := mv.gens
        obtain rfl : a3 = s.drawn := mv.drawn
        obtain rfl : a5 = s.os := mv.os
        rfl
      rw [size] at hc
      show wpAny _ _ _ _ _ _
      refine wpAny_pure ?_
      show wpAny _ _ (ret Value.none) _ _ _
      refine wpAny_pure ⟨rfl, s2.heap, s2.toks, c, es, set2, hc, fun b o e => mv.heap b o (fun z => ?_) (Heap.get?_push_of_some _ (Heap.get?_push_of_some _ e))⟩
      have lb := Heap.lt_size e
      rcases List.mem_cons.mp z with z | z
      · exact Nat.lt_irrefl _ (by rw [z] at lb; exact lb)
      · rw [List.mem_singleton.mp z, hz] at lb; exact absurd lb (by show ¬ top + 1 < top; omega)
    · rcases r2 with e | fl2
      · exact hu
      cases fl2 with
      | ret y =>
        obtain ⟨rfl, h', tk, c, rfl, a1, a2, a3⟩ := hu
        repeat (any_goals (first | assumption | wp_step))
        exact fin _ _ _ a1 a2 a3
      | _ => exact hu.elim
  | _ => exact hr.elim
end
section
variable {X : Cx}
def rSetL (K : PySem.W.Frag) (w : World) : List V → Hp → VK → Prop := fun xs H Q => ∃ (l : Addr) (ns : List Int), xs = [.ref l] ∧ SqL K H l (ns.map V.int) ∧ ns.length ≤ 1000 ∧ ∀ p c, H p = none → c ≤ ns.length → Q (.ref p) (upd H p (SetO w p (fun j => decide (j ∈ ns)) c))
theorem k_setL (K : PySem.W.Frag) (h : X.K = K) (hc : X.calm = true) : CallR X (.type "set") (rSetL K X.w) := by
  subst h
  intro pins s σ H xs us Q I r h
  obtain ⟨l, ns, rfl, hl, hz, q⟩ := h
  rw [Vals.ref1 r]
  obtain ⟨its, rv, pl, _⟩ := I.list hl
  have are : IntsAre its.toArray.toList ns := ints_of_vals rv
  exact set_of_list ns (I.ok.hd hc) pl.isList are (by unfold scanBound; omega) fun h' tk c R le kp => ⟨.ref _, _, I.laid (t' := tk) kp (Nat.le_refl _) (setO_new R), rfl, q _ c (I.hok.fresh (Nat.le_refl _)) le⟩
/-- sorted(a set of whole numbers) -/
theorem k_sortedSet (h : X.calm = true) : CallR X (.builtin "sorted") (rSortedSet X.w) := cr_sortedSet h
/-- not in a range -/
theorem op_notin_rng : OpR X (compareOp .NotIn) (fun x y H Q => ∃ i a lo hi, x = V.int i ∧ y = V.ref a ∧ H a = some (.rng lo hi) ∧ Q (.bl (!decide (lo ≤ i ∧ i < hi))) H) := by
  intro pins s σ H x y v u Q I rx ry h
  obtain ⟨i, a, lo, hi, rfl, rfl, ha, q⟩ := h
  obtain ⟨k, rfl⟩ := rx
  obtain rfl : u = Value.ref a := ry
  obtain ⟨t1, t2, t3, ho⟩ := I.hok a _ ha
  show wpAny _ _ (do return Value.bool (!(← contains (Value.ref a) (Value.int i k)))) _ _ s
  refine wpAny_bind (wpAny_contains_slot (T := "range") ⟨_, ho, rfl⟩ F.slot_range_contains (call_meets F.slot_range_contains ⟨_, ho, rfl⟩ F.entry_range_contains (F.args_range_contains_2 _ _) (q_contains a lo hi i t1 t2 t3 k) ⟨ho, wpAny_truthy_bool (wpAny_pure ⟨.bl _, H, I, rfl, ?_⟩)⟩))
  rw [place1]; exact q
variable {a b c d : Expr} {ta tb tc td : TE} {pos : Pos} {o1 o2 o3 : CmpOp} {r1 r2 r3 : R2}
def tChain3 (r1 r2 r3 : R2) (ta tb tc td : TE) : TE := fun σ H Q => ta σ H fun x H1 => tb σ H1 fun y H2 => r1 x y H2 fun z H3 => ∃ k, z = .bl k ∧ (if k = true then tc σ H3 fun u H4 => r2 y u H4 fun z2 H5 => ∃ k2, z2 = .bl k2 ∧ (if k2 = true then td σ H5 fun v H6 => r3 u v H6 Q else Q (.bl false) H5) else Q (.bl false) H3)
theorem pe_chain3 (h1 : OpR X (compareOp o1) r1) (h2 : OpR X (compareOp o2) r2) (h3 : OpR X (compareOp o3) r3) (ha : PE X a ta) (hb : PE X b tb) (hc : PE X c tc) (hd : PE X d td)
    (hm : lastMarks [o1, o2, o3] [b, c, d] = false := by with_unfolding_all rfl) : PE X (.Compare a [o1, o2, o3] [b, c, d] pos) (tChain3 r1 r2 r3 ta tb tc td) := by
  refine ⟨fun pins s σ H Q I h => Compare_chain (thn (ha.run pins s σ H _ I h) fun v s1 ⟨x, H1, I1, rx, q1⟩ => chain_link (thn (hb.run pins s1 σ H1 _ I1 q1) fun u s2 ⟨y, H2, I2, ry, q2⟩ => thn (h1 pins s2 σ H2 x y v u _ I2 rx ry q2) fun _ s3 ⟨_, H3, I3, rz, k, e, q3⟩ => ?_)) hm⟩
  subst e; cases rz; refine wpAny_truthy_bool ?_
  cases k
  · exact ite_ff ⟨.bl false, H3, I3, rfl, q3⟩
  refine ite_tt (chain_link (thn (hc.run pins s3 σ H3 _ I3 q3) fun w' s4 ⟨z', H4, I4, r4, q4⟩ => thn (h2 pins s4 σ H4 y z' u w' _ I4 ry r4 q4) fun _ s5 ⟨_, H5, I5, rz, k2, e, q5⟩ => ?_))
  subst e; cases rz; refine wpAny_truthy_bool ?_
  cases k2
  · exact ite_ff ⟨.bl false, H5, I5, rfl, q5⟩
  exact ite_tt (chain_last (thn (hd.run pins s5 σ H5 _ I5 q5) fun v6 s6 ⟨z6, H6, I6, r6, q6⟩ => h3 pins s6 σ H6 z' z6 w' v6 Q I6 r4 r6 q6))
theorem pt_chain3 (h1 : OpR X (compareOp o1) r1) (h2 : OpR X (compareOp o2) r2) (h3 : OpR X (compareOp o3) r3) (ha : PE X a ta) (hb : PE X b tb) (hc : PE X c tc) (hd : PE X d td)
    (hm : lastMarks [o1, o2, o3] [b, c, d] = false := by with_unfolding_all rfl) : PT X (.Compare a [o1, o2, o3] [b, c, d] pos) (tTest (tChain3 r1 r2 r3 ta tb tc td)) := by
  refine ⟨fun pins s σ H Q I h => isTrue_chain (thn (ha.run pins s σ H _ I h) fun v s1 ⟨x, H1, I1, rx, q1⟩ => test_link (thn (hb.run pins s1 σ H1 _ I1 q1) fun u s2 ⟨y, H2, I2, ry, q2⟩ => thn (h1 pins s2 σ H2 x y v u _ I2 rx ry q2) fun _ s3 ⟨_, H3, I3, rz, k, e, q3⟩ => ?_)) hm⟩
  subst e; cases rz; refine wpAny_truthy_bool ?_
  cases k
  · obtain ⟨k', e', q'⟩ := q3; cases e'; exact ite_ff ⟨H3, I3, q'⟩
  refine ite_tt (test_link (thn (hc.run pins s3 σ H3 _ I3 q3) fun w' s4 ⟨z', H4, I4, r4, q4⟩ => thn (h2 pins s4 σ H4 y z' u w' _ I4 ry r4 q4) fun _ s5 ⟨_, H5, I5, rz, k2, e, q5⟩ => ?_))
  subst e; cases rz; refine wpAny_truthy_bool ?_
  cases k2
  · obtain ⟨k', e', q'⟩ := q5; cases e'; exact ite_ff ⟨H5, I5, q'⟩
  refine ite_tt (test_last (thn (hd.run pins s5 σ H5 _ I5 q5) fun v6 s6 ⟨z6, H6, I6, r6, q6⟩ => thn (h3 pins s6 σ H6 z' z6 w' v6 _ I6 r4 r6 q6) fun _ s7 ⟨_, H7, I7, rz, k3, e, q7⟩ => ?_))
  subst e; cases rz; exact wpAny_truthy_bool ⟨H7, I7, q7⟩
end
end My

namespace My
open PySem PySem.Spec PyProof.Rows L2 Pre
/-! ### texts of bits -/
def sgn (b : Bool) : Nat := if b = true then 49 else 48
def bS (bs : List Bool) : Str := ⟨(bs.map sgn).toArray⟩
theorem bS_len (bs : List Bool) : (bS bs).length = bs.length := by simp [bS, Str.length]
theorem bS_size (bs : List Bool) : (bS bs).cps.size = bs.length := by simp [bS]
theorem bS_app (a b : List Bool) : bS a ++ bS b = bS (a ++ b) := by
  show (⟨(bS a).cps ++ (bS b).cps⟩ : Str) = _
  unfold bS
  rw [List.map_append, List.append_toArray]
theorem sgn_inj {a b : Bool} (h : sgn a = sgn b) : a = b := by cases a <;> cases b <;> first | rfl | (simp [sgn] at h)
theorem bS_inj {a b : List Bool} (h : bS a = bS b) : a = b := by
  have e : a.map sgn = b.map sgn := by
    have := congrArg (fun z : Str => z.cps.toList) h
    simpa [bS] using this
  induction a generalizing b with
  | nil => cases b with
    | nil => rfl
    | cons _ _ => simp at e
  | cons x r ih => cases b with
    | nil => simp at e
    | cons y q =>
      rw [List.map_cons, List.map_cons, List.cons.injEq] at e
      have hr : bS r = bS q := by
        have z : r.map sgn = q.map sgn := e.2
        unfold bS
        rw [z]
      rw [sgn_inj e.1, ih hr e.2]
theorem bS_at {bs : List Bool} {i c : Nat} (h : (bS bs).cps[i]? = some c) : ∃ b, bs[i]? = some b ∧ (⟨#[c]⟩ : Str) = bS [b] := by
  have e : (bs.map sgn)[i]? = some c := by
    unfold bS at h
    rw [← h]
    simp
  rw [List.getElem?_map] at e
  obtain ⟨b, hb, rfl⟩ := Option.map_eq_some_iff.mp e
  exact ⟨b, hb, rfl⟩
theorem bS_atI {bs : List Bool} {i : Nat} {b : Bool} (h : bs[i]? = some b) : atI (bS bs).cps.toList (i : Int) = some (sgn b) := by
  refine atI_nat ?_
  unfold bS
  simp [h]
theorem bS_one (b : Bool) : (⟨#[sgn b]⟩ : Str) = bS [b] := rfl
theorem str_one : (("1" : String) : Str) = bS [true] := by decide +kernel
theorem str_nil : (("" : String) : Str) = bS [] := by decide +kernel
theorem str_zero : (("0" : String) : Str) = bS [false] := by decide +kernel
theorem dec_bS (a b : List Bool) : decide (V.str (bS a) = V.str (bS b)) = decide (a = b) := by
  by_cases h : a = b
  · subst h; simp
  · rw [decide_eq_false h, decide_eq_false]
    exact fun z => h (bS_inj (V.str.inj z))
theorem one_sign (b : Bool) : decide (V.str (bS [b]) = V.str (("1" : String) : Str)) = b := by
  rw [str_one, dec_bS]
  cases b <;> rfl
theorem reps_list (c : List Nat) : ∀ (k : Nat) (acc : List Nat), (List.replicate k c.toArray).foldl (· ++ ·) acc.toArray = (acc ++ (List.replicate k c).flatten).toArray
  | 0, acc => by simp
  | k + 1, acc => by
    rw [List.replicate_succ, List.foldl_cons, List.append_toArray, reps_list c k, List.replicate_succ, List.flatten_cons, List.append_assoc]
theorem bS_mul (k : Nat) : Txt.mul (("0" : String) : Str) (k : Int) = bS (List.replicate k false) := by
  rw [str_zero]
  unfold Txt.mul
  by_cases h0 : (k : Int) < 1
  · rw [if_pos h0, show k = 0 by omega]
    rfl
  · rw [if_neg h0]
    by_cases h1 : k = 1
    · subst h1
      rfl
    · rw [if_neg (by
        rw [Bool.or_eq_true, beq_iff_eq, beq_iff_eq, bS_len]
        simp
        omega), Int.toNat_natCast]
      have := reps_list [48] k []
      unfold bS
      rw [List.map_replicate]
      show (⟨(List.replicate k ([48] : List Nat).toArray).foldl (· ++ ·) ([] : List Nat).toArray⟩ : Str) = _
      rw [this, List.nil_append]
      have e : (List.replicate k [48]).flatten = List.replicate k 48 := by
        clear this h0 h1
        induction k with
        | zero => rfl
        | succ k ih => rw [List.replicate_succ, List.flatten_cons, ih, List.replicate_succ]; rfl
      rw [e]
      rfl
theorem join_bits (bs : List Bool) : Txt.join (("" : String) : Str) (bs.map fun b => bS [b]) = bS bs := by
  rw [TL.join_eq]
  have e0 : TL.tl ((("" : String) : Str)) = [] := by rw [str_nil]; rfl
  have key : ∀ bs : List Bool, TL.joinL [] ((bs.map fun b => bS [b]).map TL.tl) = bs.map sgn := by
    intro bs
    induction bs with
    | nil => rfl
    | cons b r ih =>
      cases r with
      | nil => rfl
      | cons c q =>
        show TL.tl (bS [b]) ++ ([] ++ TL.joinL [] (((c :: q).map fun b => bS [b]).map TL.tl)) = _
        rw [ih]
        rfl
  have h := TL.tl_join (("" : String) : Str) (bs.map fun b => bS [b])
  rw [e0, key] at h
  unfold bS
  rw [← h]
  exact (TL.mk_tl _).symm
section
variable {X : Cx}
def rRepS : R2 := fun x y H Q => ∃ (z : Str) (n : Nat), x = .str z ∧ y = .int n ∧ z.length ≤ 100 ∧ n ≤ 10000 ∧ Q (.str (Txt.mul z n)) H
theorem op_rep_str : OpR X (binaryOp .Mult) rRepS := by
  intro pins s σ H x y v u Q I rx ry h
  obtain ⟨z, n, rfl, rfl, hz, hn, q⟩ := h
  obtain ⟨t, rfl⟩ := rx
  obtain ⟨t', rfl⟩ := ry
  exact PySem.SB.mul (mulOk_of 100 10000 hz (by omega) (by omega) (by decide) (by decide)) fun t' k => ⟨.str (Txt.mul z n), H, I.tok _, ⟨_, rfl⟩, q⟩
end
end My

namespace My
/-! ### folds in bits, read one by one -/
def vF (a : Nat) (bs : List Bool) : Nat := bs.foldl (fun n b => 2 * n + b.toNat) a
theorem vF_nil (a : Nat) : vF a [] = a := rfl
theorem vF_cons (a : Nat) (b : Bool) (r : List Bool) : vF a (b :: r) = vF (2 * a + b.toNat) r := rfl
theorem vF_app (a : Nat) (x y : List Bool) : vF a (x ++ y) = vF (vF a x) y := by unfold vF; rw [List.foldl_append]
theorem vF_eq (a : Nat) (bs : List Bool) : vF a bs = a * 2 ^ bs.length + vF 0 bs := by
  induction bs generalizing a with
  | nil => simp [vF]
  | cons b r ih =>
    rw [vF_cons, ih, vF_cons, ih (2 * 0 + b.toNat), List.length_cons, Nat.pow_succ, Nat.add_mul]
    have : 2 * a * 2 ^ r.length = a * (2 ^ r.length * 2) := by rw [Nat.mul_comm 2 a, Nat.mul_assoc, Nat.mul_comm 2]
    simp only [Nat.mul_zero, Nat.zero_add]
    omega
theorem vF_lt (bs : List Bool) : vF 0 bs < 2 ^ bs.length := by
  induction bs with
  | nil => simp [vF]
  | cons b r ih =>
    rw [vF_cons, vF_eq, List.length_cons, Nat.pow_succ]
    cases b <;> simp <;> omega
theorem vF_mono {a b : Nat} (h : a ≤ b) (bs : List Bool) : vF a bs ≤ vF b bs := by
  rw [vF_eq a, vF_eq b]
  have := Nat.mul_le_mul_right (2 ^ bs.length) h
  omega
theorem vF_ge (a : Nat) (bs : List Bool) : a ≤ vF a bs := by
  rw [vF_eq]
  have : a * 1 ≤ a * 2 ^ bs.length := Nat.mul_le_mul_left a (Nat.one_le_two_pow)
  omega
theorem vF_inj : ∀ {x y : List Bool}, x.length = y.length → vF 0 x = vF 0 y → x = y
  | [], [], _, _ => rfl
  | [], _ :: _, h, _ => nomatch h
  | _ :: _, [], h, _ => nomatch h
  | a :: x, b :: y, h, e => by
    have hl : x.length = y.length := Nat.succ.inj h
    rw [vF_cons, vF_cons, vF_eq (2 * 0 + a.toNat), vF_eq (2 * 0 + b.toNat), hl] at e
    have h1 := vF_lt x
    have h2 := vF_lt y
    rw [hl] at h1
    cases a <;> cases b <;> simp at e
    · rw [vF_inj hl e]
    · omega
    · omega
    · rw [vF_inj hl e]
/-- the low bits of a number, the high ones first -/
def bB (n : Nat) : Nat → List Bool
  | 0 => []
  | k + 1 => (n / 2 ^ k % 2 == 1) :: bB n k
theorem bB_len (n : Nat) : ∀ k, (bB n k).length = k
  | 0 => rfl
  | k + 1 => by unfold bB; rw [List.length_cons, bB_len n k]
theorem bB_val (n : Nat) : ∀ k, vF 0 (bB n k) = n % 2 ^ k
  | 0 => by simp [bB, vF, Nat.mod_one]
  | k + 1 => by
    unfold bB
    rw [vF_cons, vF_eq, bB_val n k, bB_len, Nat.pow_succ, Nat.mod_mul]
    rcases Nat.mod_two_eq_zero_or_one (n / 2 ^ k) with h | h <;> rw [h] <;> simp <;> omega
theorem bB_of (m : Nat) (bs : List Bool) : bB (m * 2 ^ bs.length + vF 0 bs) bs.length = bs := by
  refine vF_inj (bB_len _ _) ?_
  rw [bB_val, Nat.mul_add_mod_of_lt' (vF_lt bs)]
where
  Nat.mul_add_mod_of_lt' {a b c : Nat} (h : c < b) : (a * b + c) % b = c := by
    rw [Nat.add_comm, Nat.add_mul_mod_self_right, Nat.mod_eq_of_lt h]
def ones : List Bool → Nat
  | true :: r => ones r + 1
  | _ => 0
theorem ones_le : ∀ bs : List Bool, ones bs ≤ bs.length
  | [] => Nat.le_refl _
  | true :: r => by unfold ones; rw [List.length_cons]; have := ones_le r; omega
  | false :: r => by simp [ones]
theorem ones_at : ∀ (bs : List Bool) (i : Nat), i < ones bs → bs[i]? = some true
  | [], i, h => by simp [ones] at h
  | false :: r, i, h => by simp [ones] at h
  | true :: r, 0, _ => rfl
  | true :: r, i + 1, h => by
    rw [List.getElem?_cons_succ]
    exact ones_at r i (by unfold ones at h; omega)
theorem ones_stop : ∀ bs : List Bool, bs[ones bs]? ≠ some true
  | [] => by simp
  | false :: r => by simp [ones]
  | true :: r => by
    unfold ones
    rw [List.getElem?_cons_succ]
    exact ones_stop r
theorem ones_uniq {bs : List Bool} {k : Nat} (h1 : ∀ i, i < k → bs[i]? = some true) (h2 : bs[k]? ≠ some true) : ones bs = k := by
  rcases Nat.lt_trichotomy (ones bs) k with h | h | h
  · exact absurd (h1 _ h) (ones_stop bs)
  · exact h
  · exact absurd (ones_at bs k h) h2
theorem ones_split : ∀ (bs : List Bool), ones bs < bs.length → bs = List.replicate (ones bs) true ++ false :: bs.drop (ones bs + 1)
  | [], h => by simp at h
  | false :: r, _ => by simp [ones]
  | true :: r, h => by
    unfold ones at h ⊢
    rw [List.replicate_succ, List.drop_succ_cons, List.cons_append]
    rw [← ones_split r (by rw [List.length_cons] at h; omega)]
theorem ones_of (k : Nat) (r : List Bool) : ones (List.replicate k true ++ false :: r) = k := by
  induction k with
  | zero => rfl
  | succ k ih => rw [List.replicate_succ, List.cons_append]; unfold ones; rw [ih]
/-- the first fold of some bits, and how many bits it has -/
def foldR (w : Nat) (bs : List Bool) : Option (Nat × Nat) :=
  if ones bs + 1 + w ≤ bs.length then some (vF (ones bs) ((bs.drop (ones bs + 1)).take w), ones bs + 1 + w) else none
def rd (w : Nat) : Nat → List Bool → Nat → List (Nat × Nat)
  | 0, _, _ => []
  | k + 1, bs, p => match foldR w bs with
    | none => []
    | some x => (x.1, p + x.2) :: rd w k (bs.drop x.2) (p + x.2)
theorem rd_none {w k : Nat} {bs : List Bool} {p : Nat} (h : foldR w bs = none) : rd w (k + 1) bs p = [] := by
  show (match foldR w bs with
    | none => []
    | some x => (x.1, p + x.2) :: rd w k (bs.drop x.2) (p + x.2)) = _
  rw [h]
theorem rd_some {w k : Nat} {bs : List Bool} {p : Nat} {x : Nat × Nat} (h : foldR w bs = some x) : rd w (k + 1) bs p = (x.1, p + x.2) :: rd w k (bs.drop x.2) (p + x.2) := by
  show (match foldR w bs with
    | none => []
    | some x => (x.1, p + x.2) :: rd w k (bs.drop x.2) (p + x.2)) = _
  rw [h]
/-- all folds of some bits, each with the place behind it -/
def rdT (w : Nat) (bs : List Bool) : List (Nat × Nat) := rd w bs.length bs 0
theorem foldR_le {w : Nat} {bs : List Bool} {x : Nat × Nat} (h : foldR w bs = some x) : 0 < x.2 ∧ x.2 ≤ bs.length := by
  unfold foldR at h
  split at h
  · cases h; exact ⟨by show 0 < ones bs + 1 + w; omega, by assumption⟩
  · cases h
theorem rd_at (w : Nat) : ∀ (k : Nat) (bs : List Bool) (p0 : Nat), bs.length ≤ k → ∀ (j p : Nat), (p0 :: (rd w k bs p0).map (·.2))[j]? = some p →
    p0 ≤ p ∧ p ≤ p0 + bs.length ∧ (foldR w (bs.drop (p - p0))).map (fun x => (x.1, p + x.2)) = (rd w k bs p0)[j]?
  | 0, bs, p0, h, j, p, e => by
    have hb : bs = [] := List.eq_nil_of_length_eq_zero (by omega)
    subst hb
    cases j with
    | zero =>
      cases e
      refine ⟨Nat.le_refl _, Nat.le_refl _, ?_⟩
      have : foldR w ([] : List Bool) = none := by
        unfold foldR
        rw [if_neg (by simp [ones])]
      simp [this, rd]
    | succ j => simp [rd] at e
  | k + 1, bs, p0, h, j, p, e => by
    cases hf : foldR w bs with
    | none =>
      have e1 : rd w (k + 1) bs p0 = [] := rd_none hf
      rw [e1] at e ⊢
      cases j with
      | zero =>
        cases e
        exact ⟨Nat.le_refl _, by omega, by simp [hf]⟩
      | succ j => simp at e
    | some x =>
      obtain ⟨l1, l2⟩ := foldR_le hf
      have e1 : rd w (k + 1) bs p0 = (x.1, p0 + x.2) :: rd w k (bs.drop x.2) (p0 + x.2) := rd_some hf
      rw [e1] at e ⊢
      cases j with
      | zero =>
        cases e
        exact ⟨Nat.le_refl _, by omega, by simp [hf]⟩
      | succ j =>
        rw [List.getElem?_cons_succ, List.map_cons] at e
        obtain ⟨q1, q2, q3⟩ := rd_at w k (bs.drop x.2) (p0 + x.2) (by rw [List.length_drop]; omega) j p e
        rw [List.length_drop] at q2
        refine ⟨by omega, by omega, ?_⟩
        rw [List.getElem?_cons_succ, ← q3, List.drop_drop]
        have : x.2 + (p - (p0 + x.2)) = p - p0 := by omega
        rw [this]
/-- the place at which the fold number j begins -/
def plc (w : Nat) (bs : List Bool) (j : Nat) : Nat := ((0 :: (rdT w bs).map (·.2))[j]?).getD 0
theorem plc_get {w : Nat} {bs : List Bool} {j : Nat} (h : j ≤ (rdT w bs).length) : (0 :: (rdT w bs).map (·.2))[j]? = some (plc w bs j) := by
  unfold plc
  rw [List.getElem?_eq_getElem (by simp; omega), Option.getD_some]
theorem plc_zero (w : Nat) (bs : List Bool) : plc w bs 0 = 0 := rfl
theorem plc_step {w : Nat} {bs : List Bool} {j : Nat} (h : j ≤ (rdT w bs).length) : plc w bs j ≤ bs.length ∧ (foldR w (bs.drop (plc w bs j))).map (fun x => (x.1, plc w bs j + x.2)) = (rdT w bs)[j]? := by
  obtain ⟨q1, q2, q3⟩ := rd_at w bs.length bs 0 (Nat.le_refl _) j _ (plc_get h)
  rw [Nat.sub_zero] at q3
  exact ⟨by omega, q3⟩
theorem plc_next {w : Nat} {bs : List Bool} {j : Nat} {x : Nat × Nat} (h : (rdT w bs)[j]? = some x) : plc w bs (j + 1) = x.2 := by
  unfold plc
  rw [List.getElem?_cons_succ, List.getElem?_map, h]
  rfl
theorem rd_len (w : Nat) : ∀ (k : Nat) (bs : List Bool) (p : Nat), (rd w k bs p).length ≤ bs.length
  | 0, _, _ => by simp [rd]
  | k + 1, bs, p => by
    cases hf : foldR w bs with
    | none => rw [rd_none hf]; simp
    | some x =>
      rw [rd_some hf]
      obtain ⟨l1, l2⟩ := foldR_le hf
      have := rd_len w k (bs.drop x.2) (p + x.2)
      rw [List.length_drop] at this
      simp only [List.length_cons]
      omega
theorem rdT_len (w : Nat) (bs : List Bool) : (rdT w bs).length ≤ bs.length := rd_len w _ _ _
/-- the bits of one fold -/
def tx1 (w f : Nat) : List Bool := List.replicate (f / 2 ^ w) true ++ false :: bB f w
def txF (w : Nat) (fs : List Nat) : List Bool := fs.flatMap (tx1 w)
theorem tx1_len (w f : Nat) : (tx1 w f).length = f / 2 ^ w + 1 + w := by
  unfold tx1
  rw [List.length_append, List.length_replicate, List.length_cons, bB_len]
  omega
theorem foldR_tx1 (w f : Nat) (r : List Bool) : foldR w (tx1 w f ++ r) = some (f, (tx1 w f).length) := by
  have e : tx1 w f ++ r = List.replicate (f / 2 ^ w) true ++ false :: (bB f w ++ r) := by
    unfold tx1
    rw [List.append_assoc, List.cons_append]
  unfold foldR
  rw [tx1_len, e, ones_of]
  rw [if_pos (by rw [List.length_append, List.length_replicate, List.length_cons, List.length_append, bB_len]; omega)]
  have e2 : (List.replicate (f / 2 ^ w) true ++ false :: (bB f w ++ r)).drop (f / 2 ^ w + 1) = bB f w ++ r := by
    rw [List.drop_append_of_le_length' , List.length_replicate]
    · have : f / 2 ^ w + 1 - f / 2 ^ w = 1 := by omega
      rw [this]
      simp
  have e3 : (bB f w ++ r).take w = bB f w := by
    rw [List.take_append_of_le_length (by rw [bB_len]; exact Nat.le_refl _), List.take_of_length_le (by rw [bB_len]; exact Nat.le_refl _)]
  rw [e2, e3, vF_eq, bB_val, bB_len]
  have := Nat.div_add_mod f (2 ^ w)
  rw [Nat.mul_comm, ] at this
  rw [this]
where
  List.drop_append_of_le_length' {n : Nat} {a b : List Bool} : (a ++ b).drop n = a.drop n ++ b.drop (n - a.length) := List.drop_append
/-- written and read -/
theorem rd_tx (w : Nat) : ∀ (fs : List Nat) (more : List Bool) (k p : Nat), (txF w fs ++ more).length ≤ k →
    ((rd w k (txF w fs ++ more) p).take fs.length).map (·.1) = fs ∧ (p :: (rd w k (txF w fs ++ more) p).map (·.2))[fs.length]? = some (p + (txF w fs).length)
  | [], more, k, p, _ => by simp [txF]
  | f :: fs, more, k, p, h => by
    have e : txF w (f :: fs) ++ more = tx1 w f ++ (txF w fs ++ more) := by
      show (tx1 w f ++ txF w fs) ++ more = _
      rw [List.append_assoc]
    have el : (txF w (f :: fs)).length = (tx1 w f).length + (txF w fs).length := by
      show (tx1 w f ++ txF w fs).length = _
      rw [List.length_append]
    rw [e] at h ⊢
    have hp : 1 ≤ (tx1 w f).length := by
      rw [tx1_len]
      exact Nat.le_trans (Nat.le_add_left 1 _) (Nat.le_add_right _ _)
    rw [List.length_append] at h
    cases k with
    | zero => omega
    | succ k =>
      rw [rd_some (foldR_tx1 w f _)]
      have e2 : (tx1 w f ++ (txF w fs ++ more)).drop (tx1 w f).length = txF w fs ++ more := by simp
      rw [e2]
      obtain ⟨q1, q2⟩ := rd_tx w fs more k (p + (tx1 w f).length) (by omega)
      refine ⟨?_, ?_⟩
      · rw [List.length_cons, List.take_succ_cons, List.map_cons, q1]
      · rw [List.length_cons, List.getElem?_cons_succ, List.map_cons, q2, el]
        congr 1
        omega
theorem rdT_tx (w : Nat) (fs : List Nat) (more : List Bool) : ((rdT w (txF w fs ++ more)).take fs.length).map (·.1) = fs ∧ fs.length ≤ (rdT w (txF w fs ++ more)).length ∧ plc w (txF w fs ++ more) fs.length = (txF w fs).length := by
  obtain ⟨q1, q2⟩ := rd_tx w fs more _ 0 (Nat.le_refl _)
  refine ⟨q1, ?_, ?_⟩
  · have := congrArg List.length q1
    rw [List.length_map, List.length_take] at this
    have : min fs.length (rdT w (txF w fs ++ more)).length = fs.length := this
    omega
  · unfold plc
    show ((0 :: (rd w _ (txF w fs ++ more) 0).map (·.2))[fs.length]?).getD 0 = _
    rw [q2, Option.getD_some, Nat.zero_add]
/-! ### read whole -/
def whole (w : Nat) (bs : List Bool) : Bool := plc w bs (rdT w bs).length == bs.length
theorem lastE {w : Nat} {bs : List Bool} : (0 :: (rdT w bs).map (·.2)).getLast (by simp) = plc w bs (rdT w bs).length := by
  unfold plc
  rw [List.getLast_eq_getElem]
  simp
def goS (w s : Int) (b : Bool) : Int := if 0 < s then s - 1 else if b = true then -1 else w
def runS (w s : Int) (bs : List Bool) : Int := bs.foldl (goS w) s
theorem run_cons (w s : Int) (b : Bool) (r : List Bool) : runS w s (b :: r) = runS w (goS w s b) r := rfl
theorem run_app (w s : Int) (x y : List Bool) : runS w s (x ++ y) = runS w (runS w s x) y := by unfold runS; rw [List.foldl_append]
theorem run_ones (w : Int) (k : Nat) : runS w 0 (List.replicate k true) = if k = 0 then 0 else -1 := by
  cases k with
  | zero => rfl
  | succ k =>
    rw [if_neg (by omega), List.replicate_succ, run_cons]
    show runS w (-1) _ = -1
    induction k with
    | zero => rfl
    | succ k ih => rw [List.replicate_succ, run_cons]; exact ih
theorem run_down (w : Nat) : ∀ (n : Nat) (bs : List Bool), runS w n bs = if bs.length < n then ((n - bs.length : Nat) : Int) else runS w 0 (bs.drop n)
  | 0, bs => by rw [if_neg (by omega)]; rfl
  | n + 1, [] => by rw [if_pos (by simp)]; rfl
  | n + 1, b :: r => by
    rw [run_cons]
    have e : goS w ((n + 1 : Nat) : Int) b = (n : Nat) := by
      unfold goS
      rw [if_pos (by omega)]
      omega
    rw [e, run_down w n r, List.length_cons, List.drop_succ_cons]
    by_cases h : r.length < n
    · rw [if_pos h, if_pos (by omega)]
      congr 1
      omega
    · rw [if_neg h, if_neg (by omega)]
def lastP (p : Nat) (l : List (Nat × Nat)) : Nat := (p :: l.map (·.2)).getLast (by simp)
theorem lastP_cons (p : Nat) (x : Nat × Nat) (l : List (Nat × Nat)) : lastP p (x :: l) = lastP x.2 l := by
  unfold lastP
  simp
theorem whole_run (w : Nat) : ∀ (k : Nat) (bs : List Bool) (p : Nat), bs.length ≤ k → (lastP p (rd w k bs p) = p + bs.length ↔ runS w 0 bs = 0)
  | 0, bs, p, h => by
    have hb : bs = [] := List.eq_nil_of_length_eq_zero (by omega)
    subst hb
    simp [rd, lastP, runS]
  | k + 1, bs, p, h => by
    have ho := ones_le bs
    by_cases h0 : ones bs < bs.length
    · have sp := ones_split bs h0
      have hrun : runS w 0 bs = runS w w (bs.drop (ones bs + 1)) := by
        conv => lhs; rw [sp]
        rw [run_app, run_ones, run_cons]
        have : goS w (if ones bs = 0 then 0 else -1) false = w := by
          unfold goS
          rw [if_neg (by split <;> omega), if_neg (by simp)]
        rw [this]
      rw [hrun, run_down, List.length_drop]
      by_cases h1 : ones bs + 1 + w ≤ bs.length
      · have hf : foldR w bs = some (vF (ones bs) ((bs.drop (ones bs + 1)).take w), ones bs + 1 + w) := by
          unfold foldR
          rw [if_pos h1]
        rw [if_neg (by omega), rd_some hf, lastP_cons, List.drop_drop]
        have ih := whole_run w k (bs.drop (ones bs + 1 + w)) (p + (ones bs + 1 + w)) (by rw [List.length_drop]; omega)
        rw [List.length_drop] at ih
        show lastP (p + (ones bs + 1 + w)) (rd w k (bs.drop (ones bs + 1 + w)) (p + (ones bs + 1 + w))) = _ ↔ _
        rw [← ih]
        constructor <;> intro e <;> omega
      · have hf : foldR w bs = none := by
          unfold foldR
          rw [if_neg h1]
        rw [if_pos (by omega), rd_none hf]
        show p = p + bs.length ↔ _
        constructor <;> intro e <;> omega
    · have e1 : ones bs = bs.length := by omega
      have hf : foldR w bs = none := by
        unfold foldR
        rw [if_neg (by omega)]
      rw [rd_none hf]
      have hr : bs = List.replicate (ones bs) true := by
        refine List.eq_replicate_iff.mpr ⟨e1.symm, fun b hb => ?_⟩
        obtain ⟨i, hi, rfl⟩ := List.getElem_of_mem hb
        have := ones_at bs i (by omega)
        rw [List.getElem?_eq_getElem hi] at this
        exact Option.some.inj this
      have hrun : runS w 0 bs = if ones bs = 0 then 0 else -1 := by
        conv => lhs; rw [hr]
        exact run_ones _ _
      rw [hrun]
      show p = p + bs.length ↔ _
      by_cases h2 : ones bs = 0
      · rw [if_pos h2]; constructor <;> intro e <;> omega
      · rw [if_neg h2]; constructor <;> intro e <;> omega
theorem whole_iff (w : Nat) (bs : List Bool) : whole w bs = true ↔ runS w 0 bs = 0 := by
  rw [← whole_run w bs.length bs 0 (Nat.le_refl _), Nat.zero_add]
  unfold whole
  rw [beq_iff_eq, ← lastE]
  exact Iff.rfl
theorem tx_rd (w : Nat) : ∀ (k : Nat) (bs : List Bool) (p : Nat), bs.length ≤ k → lastP p (rd w k bs p) = p + bs.length → txF w ((rd w k bs p).map (·.1)) = bs
  | 0, bs, p, h, _ => by
    have hb : bs = [] := List.eq_nil_of_length_eq_zero (by omega)
    subst hb
    rfl
  | k + 1, bs, p, h, e => by
    cases hf : foldR w bs with
    | none =>
      rw [rd_none hf] at e ⊢
      have e' : p = p + bs.length := e
      have hb : bs = [] := List.eq_nil_of_length_eq_zero (by omega)
      subst hb
      rfl
    | some x =>
      obtain ⟨l1, l2⟩ := foldR_le hf
      rw [rd_some hf, lastP_cons] at e
      rw [rd_some hf]
      have ih := tx_rd w k (bs.drop x.2) (p + x.2) (by rw [List.length_drop]; omega) (by rw [List.length_drop]; simp only at e; omega)
      show tx1 w x.1 ++ txF w ((rd w k (bs.drop x.2) (p + x.2)).map (·.1)) = bs
      rw [ih]
      unfold foldR at hf
      split at hf
      · rename_i h1
        cases hf
        have hl : ((bs.drop (ones bs + 1)).take w).length = w := by rw [List.length_take, List.length_drop]; omega
        have lo := vF_lt ((bs.drop (ones bs + 1)).take w)
        rw [hl] at lo
        show tx1 w (vF (ones bs) ((bs.drop (ones bs + 1)).take w)) ++ bs.drop (ones bs + 1 + w) = bs
        unfold tx1
        have e1 : vF (ones bs) ((bs.drop (ones bs + 1)).take w) = ones bs * 2 ^ w + vF 0 ((bs.drop (ones bs + 1)).take w) := by rw [vF_eq, hl]
        have e2 : vF (ones bs) ((bs.drop (ones bs + 1)).take w) / 2 ^ w = ones bs := by
          rw [e1, Nat.add_comm, Nat.add_mul_div_right _ _ (Nat.two_pow_pos w), Nat.div_eq_of_lt lo, Nat.zero_add]
        have e3 : bB (vF (ones bs) ((bs.drop (ones bs + 1)).take w)) w = (bs.drop (ones bs + 1)).take w := by
          rw [e1]
          conv => lhs; arg 2; rw [← hl]
          rw [show ones bs * 2 ^ w = ones bs * 2 ^ ((bs.drop (ones bs + 1)).take w).length by rw [hl]]
          exact bB_of _ _
        have e4 : bs.drop (ones bs + 1 + w) = (bs.drop (ones bs + 1)).drop w := List.drop_drop.symm
        rw [e2, e3, e4, List.append_assoc, List.cons_append, List.take_append_drop]
        exact (ones_split bs (by omega)).symm
      · cases hf
theorem tx_whole {w : Nat} {bs : List Bool} (h : whole w bs = true) : txF w ((rdT w bs).map (·.1)) = bs := by
  refine tx_rd w _ bs 0 (Nat.le_refl _) ?_
  rw [Nat.zero_add]
  unfold whole at h
  rw [beq_iff_eq, ← lastE] at h
  exact h
end My

namespace My
open PySem PySem.Spec PyProof.Rows L2 Pre
/-! ### a dict display of one tuple; sets in comprehensions; texts of bits -/
def tDisp1T (tk tv : TE) : TE := fun σ H Q => ∀ p, H p = none → tk σ (L2.upd H p (.dT [])) fun x H1 => tv σ H1 fun y H2 => H2 p = some (.dT []) ∧ ∃ (b : Addr) (k : List Key), x = .ref b ∧ H2 b = some (.tup (k.map kV)) ∧ Q (.ref p) (L2.upd H2 p (.dT [(k, y)]))
section
variable {X : Cx} {k v : Expr} {tk tv : TE} {pos : Pos}
theorem pe_disp1T (hu : X.A.units + 1 < cLine) (hk : PE X k tk) (hv : PE X v tv) : PE X (.Dict [some k] [v] pos) (tDisp1T tk tv) := by
  refine ⟨fun pins s σ H Q I q => ?_⟩
  have hn := I.hok.fresh (Nat.le_refl s.heap.objs.size)
  have I1 := I.laid (a := s.heap.objs.size) (o := .dT []) (h' := s.heap.push { cls := .type "dict", data := .dict #[] }) (t' := s.toks) (fun _ _ q => Heap.get?_push_of_some _ q) (Nat.le_refl _) (dt_empty s.heap I.big)
  have hl := pairTrees_length [some k] [v] X.env pos rfl rfl
  rw [arm_eval_Dict, zip_pairTrees [some k] [v] X.env pos rfl rfl, dictDisplay_pairs _ (fun e => by rw [e] at hl; cases hl) (by rw [hl]; show 1 < 17; decide)]
  refine wpAny_bind (wpAny_standAt (wpAny_bind (wpAny_subDictH (knd := tupleKind (mixKind X.prog X.w)) (show X.A.units < cLine by omega) (by rw [hl]; show 1 ≤ 15; decide) ?_)))
  refine pairTrees_cons_walk (thn (hk.run pins _ σ _ _ I1 (q _ hn)) fun u s1 ⟨x, H1, I2, rx, q2⟩ => thn (hv.run pins s1 σ H1 _ I2 q2) fun w s2 ⟨y, H2, I3, ry, e, b, kk, ex, eb, q3⟩ => pairTrees_nil_walk ?_)
  subst ex
  cases (show u = Value.ref b from rx)
  obtain ⟨z, hd, xs, rel, dd⟩ := dt_of I3.hok e
  cases rel
  refine ⟨[(kk, b, w)], ⟨rfl, rfl, key_of I3.hok eb, trivial⟩, dd, fun h' tk' dd' hs => wpAny_pure ⟨.ref s.heap.objs.size, _, ?_, rfl, q3⟩⟩
  obtain ⟨qo, es, ep, hq, h2, h3, h4, _, h5⟩ := dd'
  have hne : b ≠ s.heap.objs.size := ne_of eb e (fun z => nomatch z)
  refine d_write I3 (by rw [e]; exact True.intro) hs ⟨qo, hq⟩ ⟨by show 1 ≤ sizeLine; decide, hd, _, .cons ⟨rfl, ?_, ry⟩ .nil, qo, es, ep, hq, h2, h3, h4, h5⟩
  show (L2.upd H2 s.heap.objs.size _) b = _
  rw [upd_ne hne]
  exact eb
theorem k_sIn (w : World) (h : X.w = w) : OpR X (compareOp .In) (rSIn w) := by subst h; exact or_sin
theorem k_setLW (K : PySem.W.Frag) (w : World) (h : X.K = K) (hw : X.w = w) (hc : X.calm = true) : CallR X (.type "set") (rSetL K w) := by subst hw; exact k_setL K h hc
end
/-! ### texts -/
theorem bS_tl (bs : List Bool) : (bS bs).cps.toList = bs.map sgn := by unfold bS; simp
theorem find_at {bs : List Bool} {i : Nat} : StrLaws.At (bS bs) (bS [false]) (bS bs).length i ↔ bs[i]? = some false := by
  have h := StrLaws.subAt_one (bS bs) 48 i
  show (i + (⟨#[48]⟩ : Str).length ≤ (bS bs).length ∧ Builtin.Str.subAt (bS bs) ⟨#[48]⟩ i = true) ↔ _
  rw [h, bS_tl, List.getElem?_map]
  constructor
  · intro e
    obtain ⟨b, hb, eb⟩ := Option.map_eq_some_iff.mp e
    cases b with
    | false => exact hb
    | true => simp [sgn] at eb
  · intro e
    rw [e]
    rfl
theorem range'_splitN {s n a : Nat} {pre post : List Nat} (h : List.range' s n = pre ++ a :: post) : a < s + n ∧ s ≤ a ∧ ∀ k, s ≤ k → k < a → k ∈ pre := by
  have hm : a ∈ List.range' s n := by rw [h]; simp
  have hr := List.mem_range'_1.mp hm
  refine ⟨hr.2, hr.1, fun k h1 h2 => ?_⟩
  have hk : k ∈ List.range' s n := List.mem_range'_1.mpr ⟨h1, by omega⟩
  rw [h] at hk
  rcases List.mem_append.mp hk with hk | hk
  · exact hk
  · rcases List.mem_cons.mp hk with hk | hk
    · omega
    · have pw : (List.range' s n).Pairwise (· < ·) := List.pairwise_lt_range'
      rw [h] at pw
      have := (List.pairwise_cons.mp (List.pairwise_append.mp pw).2.1).1 k hk
      omega
/-- the first 0 from a place on -/
theorem find_zero {bs : List Bool} {p : Nat} (hp : p ≤ bs.length) : Txt.find3 (bS bs) (bS [false]) (p : Int) = if p + ones (bs.drop p) < bs.length then ((p + ones (bs.drop p) : Nat) : Int) else -1 := by
  unfold Txt.find3
  have ef : fromIndex (bS bs).length (p : Int) = p := by
    unfold fromIndex
    rw [if_neg (by omega)]
    omega
  rw [ef, StrLaws.occ_eq]
  have key := StrLaws.occ_first (bS bs) (bS [false]) (bS bs).length 1 (Nat.le_refl 1) (List.range' p ((bS bs).length + 1 - p)) p (fun i hi => (List.mem_range'_1.mp hi).1)
  generalize (forIn (List.range' p ((bS bs).length + 1 - p)) ((#[] : Array Nat), p) (StrLaws.occBody (bS bs) (bS [false]) (bS bs).length 1)).run.fst = arr at key
  have hl : (bS bs).length = bs.length := bS_len bs
  rcases key with ⟨h0, hn⟩ | ⟨pre, a, post, e, h0, ha, hn⟩
  · rw [if_neg, h0]
    intro hlt
    have h1 := ones_stop (bs.drop p)
    have h2 : (bs.drop p)[ones (bs.drop p)]? = some false := by
      have h3 : ones (bs.drop p) < (bs.drop p).length := by rw [List.length_drop]; omega
      rw [List.getElem?_eq_getElem h3] at h1 ⊢
      cases h4 : (bs.drop p)[ones (bs.drop p)] with
      | true => rw [h4] at h1; exact absurd rfl h1
      | false => rfl
    rw [List.getElem?_drop] at h2
    exact hn _ (List.mem_range'_1.mpr ⟨by omega, by rw [hl]; omega⟩) (find_at.mpr h2)
  · obtain ⟨s1, s2, s3⟩ := range'_splitN e
    have ha' := find_at.mp ha
    have eo : ones (bs.drop p) = a - p := by
      refine ones_uniq (fun i hi => ?_) ?_
      · rw [List.getElem?_drop]
        have hx := hn (p + i) (s3 _ (by omega) (by omega))
        rw [find_at] at hx
        have hlt : p + i < bs.length := by
          have := (List.getElem?_eq_some_iff.mp ha').1
          omega
        rw [List.getElem?_eq_getElem hlt] at hx ⊢
        cases hb : bs[p + i] with
        | true => rfl
        | false => rw [hb] at hx; exact absurd rfl hx
      · rw [List.getElem?_drop]
        have : p + (a - p) = a := by omega
        rw [this, ha']
        simp
    have hlt := (List.getElem?_eq_some_iff.mp ha').1
    rw [if_pos (by omega)]
    have h1 : arr.toList[0]? = some a := by simpa using h0
    cases hL : arr.toList with
    | nil => rw [hL] at h1; cases h1
    | cons b t =>
      rw [hL] at h1
      simp at h1
      subst h1
      show ((b : Nat) : Int) = _
      omega
theorem bS_mul1 (k : Nat) : Txt.mul (("1" : String) : Str) (k : Int) = bS (List.replicate k true) := by
  rw [str_one]
  unfold Txt.mul
  by_cases h0 : (k : Int) < 1
  · rw [if_pos h0, show k = 0 by omega]
    rfl
  · rw [if_neg h0]
    by_cases h1 : k = 1
    · subst h1
      rfl
    · rw [if_neg (by
        rw [Bool.or_eq_true, beq_iff_eq, beq_iff_eq, bS_len]
        simp
        omega), Int.toNat_natCast]
      have := reps_list [49] k []
      unfold bS
      rw [List.map_replicate]
      show (⟨(List.replicate k ([49] : List Nat).toArray).foldl (· ++ ·) ([] : List Nat).toArray⟩ : Str) = _
      rw [this, List.nil_append]
      have e : (List.replicate k [49]).flatten = List.replicate k 49 := by
        clear this h0 h1
        induction k with
        | zero => rfl
        | succ k ih => rw [List.replicate_succ, List.flatten_cons, ih, List.replicate_succ]; rfl
      rw [e]
      rfl
theorem bit_int (b : Bool) : PySem.intText? (bS [b]) = some (b.toNat : Int) := by cases b <;> decide +kernel
theorem str_01 : (("01" : String) : Str) = bS [false, true] := by decide +kernel
theorem str_10 : (("10" : String) : Str) = bS [true, false] := by decide +kernel
theorem join_texts (ts : List (List Bool)) : Txt.join (("" : String) : Str) (ts.map bS) = bS ts.flatten := by
  rw [TL.join_eq]
  have e0 : TL.tl ((("" : String) : Str)) = [] := by rw [str_nil]; rfl
  have key : ∀ ts : List (List Bool), TL.joinL [] ((ts.map bS).map TL.tl) = ts.flatten.map sgn := by
    intro ts
    induction ts with
    | nil => rfl
    | cons b r ih =>
      have eb : TL.tl (bS b) = b.map sgn := bS_tl b
      cases r with
      | nil =>
        show TL.tl (bS b) = _
        rw [eb]
        simp
      | cons c q =>
        show TL.tl (bS b) ++ ([] ++ TL.joinL [] (((c :: q).map bS).map TL.tl)) = _
        rw [ih, eb]
        simp
  have h := TL.tl_join (("" : String) : Str) (ts.map bS)
  rw [e0, key] at h
  show _ = (⟨(ts.flatten.map sgn).toArray⟩ : Str)
  rw [← h]
end My

namespace My
open PySem PySem.Spec PyProof.Rows L2 Pre
/-! ### texts of bits: slices, numbers, lists of counts -/
theorem shrN (a k : Nat) : (a : Int) / 2 ^ ((k : Int)).toNat = ((a / 2 ^ k : Nat) : Int) := by
  rw [Int.toNat_natCast, Int.natCast_ediv, Int.natCast_pow]
  rfl
theorem shlN (a k : Nat) : (a : Int) * 2 ^ ((k : Int)).toNat = ((a * 2 ^ k : Nat) : Int) := by
  rw [Int.toNat_natCast, Int.natCast_mul, Int.natCast_pow]
  rfl
theorem and1N (n : Nat) : Builtin.bitAnd (n : Int) 1 = ((n % 2 : Nat) : Int) := by
  rw [bitAnd_m1]
  omega
theorem small4 {n : Nat} (h : n ≤ 100000) : n < sizeLine := by rw [sizeLine_eq]; omega
theorem cut_list {α : Type} (l : List α) (i j : Nat) : (l.drop (min i l.length)).take (min j l.length - min i l.length) = (l.drop i).take (j - i) := by
  rcases Nat.le_total i l.length with h | h
  · rw [Nat.min_eq_left h]
    rcases Nat.le_total j l.length with k | k
    · rw [Nat.min_eq_left k]
    · rw [Nat.min_eq_right k, List.take_of_length_le (l := l.drop i) (i := l.length - i) (by rw [List.length_drop]; exact Nat.le_refl _), List.take_of_length_le (by rw [List.length_drop]; omega)]
  · rw [Nat.min_eq_right h, List.drop_of_length_le (Nat.le_refl _), List.drop_of_length_le h]
    simp
theorem bS_list (bs : List Bool) : (bS bs).cps.toList = bs.map sgn := by unfold bS; simp
theorem cut_bS (bs : List Bool) (i j : Nat) : cutS (bS bs) (some (i : Int)) (some (j : Int)) = bS ((bs.drop i).take (j - i)) := by
  unfold cutS
  rw [HT.sIx_nat, HT.sIx_nat, bS_list, bS_len]
  have h := cut_list (bs.map sgn) i j
  rw [List.length_map] at h
  rw [h, ← List.map_drop, ← List.map_take]
  rfl
theorem cut_bSd (bs : List Bool) (i : Nat) : cutS (bS bs) (some (i : Int)) none = bS (bs.drop i) := by
  unfold cutS
  rw [HT.sIx_nat, HT.sIx_none, bS_list, bS_len]
  have h := cut_list (bs.map sgn) i bs.length
  rw [List.length_map, Nat.min_self] at h
  rw [h, ← List.map_drop, ← List.map_take, List.take_of_length_le (by rw [List.length_drop]; exact Nat.le_refl _)]
  rfl
theorem cut_bSt (bs : List Bool) (j : Nat) : cutS (bS bs) none (some (j : Int)) = bS (bs.take j) := by
  unfold cutS
  rw [HT.sIx_nat, HT.sIx_none, bS_list, bS_len]
  have h := cut_list (bs.map sgn) 0 j
  rw [List.length_map, Nat.zero_min] at h
  rw [h, List.drop_zero, Nat.sub_zero, ← List.map_take]
  rfl
theorem bB_get (n : Nat) : ∀ k i, i < k → (bB n k)[i]? = some (n / 2 ^ (k - 1 - i) % 2 == 1)
  | k + 1, 0, _ => by unfold bB; simp
  | k + 1, i + 1, h => by
    unfold bB
    rw [List.getElem?_cons_succ, bB_get n k i (by omega)]
    have : k - 1 - i = k + 1 - 1 - (i + 1) := by omega
    rw [this]
theorem bit_nat (x : Nat) : x % 2 = (x % 2 == 1).toNat := by
  rcases Nat.mod_two_eq_zero_or_one x with h | h <;> rw [h] <;> rfl
theorem fm_noneN {α β : Type} (l : List α) : (l.map fun _ => (none : Option β)).filterMap id = [] := by
  induction l with
  | nil => rfl
  | cons n r ih => simp
theorem sign_01 (b : Bool) : decide (sgn b ∈ ((("01" : String) : Str)).cps.toList) = true := by
  have e : (("01" : String) : Str).cps.toList = [48, 49] := by decide +kernel
  rw [e]
  cases b <;> decide
/-- a list of counts -/
abbrev nI (fs : List Nat) : List Int := fs.map fun (n : Nat) => (n : Int)
theorem nI_len (fs : List Nat) : ((nI fs).map V.int).length = fs.length := by rw [List.length_map, List.length_map]
theorem nI_at {fs : List Nat} {i : Nat} {x : V} (h : ((nI fs).map V.int)[i]? = some x) : ∃ n : Nat, fs[i]? = some n ∧ x = .int n := by
  obtain ⟨n, hn, rfl⟩ := int_at h
  rw [List.getElem?_map] at hn
  obtain ⟨m, hm, rfl⟩ := Option.map_eq_some_iff.mp hn
  exact ⟨m, hm, rfl⟩
theorem nI_get {fs : List Nat} {i n : Nat} (h : fs[i]? = some n) : ((nI fs).map V.int)[i]? = some (.int n) := by
  rw [List.getElem?_map, List.getElem?_map, h]
  rfl
theorem nI_inj {a b : List Nat} : nI a = nI b ↔ a = b := ⟨fun h => (List.map_inj_right fun x y e => by omega).mp h, fun h => by rw [h]⟩
theorem bool_nat (b : Bool) : (if b = true then (1 : Int) else 0) = ((b.toNat : Nat) : Int) := by cases b <;> rfl
theorem bit_int' (b : Bool) : PySem.intText? (bS [b]) = some (b.toNat : Int) := by cases b <;> decide +kernel
theorem vF_take {bs : List Bool} {i : Nat} {b : Bool} (h : bs[i]? = some b) : vF 0 (bs.take (i + 1)) = 2 * vF 0 (bs.take i) + b.toNat := by
  rw [List.take_add_one, h, vF_app]
  rfl
end My

namespace My
open PySem PySem.Spec PyProof.Rows L2 Pre
/-! ### promises for callers that stand in no repr: within them repr of lists shows its items -/
structure FnG (P : Program) (w : World) (K : PySem.W.Frag) (mg : Str → Option Value) (base : Heap) (CX : CXT) (k : Nat) (f : Addr) (fd : FuncData) (ps : List Str) (sp : Sp) : Prop where
  many : ∀ xs H Q E, sp xs H Q E → xs.length = ps.length
  does : ∀ (A : Around), A.guards = some [] → Room k A → ∀ (fr : List Env) (t : Shared) (H : Hp), Env0 P w K mg base A fr t H → ∀ (ar : Args) (us : List Value) (xs : List V), BindsTo t fd ar (ps.zip us) → Vals xs us →
    ∀ (Q : VK) (E : XK), sp xs H Q E → codeAny (model P w) A (.call (.ref f) ar) (CR CX fr P w H t Q E) t
section
variable {P : Program} {w : World} {K : PySem.W.Frag} {mg : Str → Option Value} {base : Heap} {CX : CXT} {k : Nat} {f : Addr} {fd : FuncData} {ps : List Str} {sp : Sp}
theorem FnG.of (F : FnOk P w K mg base CX k f fd ps sp) : FnG P w K mg base CX k f fd ps sp :=
  ⟨F.len, fun A _ hr fr t H e ar us xs b v Q E h => F.run A fr t H ar us xs Q E hr e b v h⟩
/-- a body makes a promise -/
theorem FnG.body {x qual : Str} {pr : Arguments} {bd : List Stmt} {sc : Scope} {dvs : List V} {kws : List (Str × V)} {N : List Str} (F : FunD K x qual pr bd sc dvs kws f fd) (S : FnScope N ps sc) (hm : ∀ xs H Q E, sp xs H Q E → xs.length = ps.length)
    (go : ∀ (cv : Value) (A : Around) (fr : List Env) (t : Shared) (H : Hp) (xs : List V) (Q : VK) (E : XK), A.guards = some [] → Room k (A.deeper (envOfC qual sc t.heap.objs.size f cv)) → sp xs H Q E →
      ∃ τ, PSs (cxOf CX P w K mg base N qual sc f cv A fr t H E) bd τ ∧ τ { nx := fun _ H1 => Q .non H1, rt := Q } (start N xs) H) : FnG P w K mg base CX (k + 1) f fd ps sp := by
  obtain ⟨c0, d0, dv, kv, dc, pm, an, cv, ct, sl, rfl, lk, hcode, _, _⟩ := F.ex
  refine ⟨hm, fun A gd hr fr t H e0 ar us xs hb rv Q E hs => ?_⟩
  have hin : K.In t.heap := e0.mod.kin.keeps fun b o z => (e0.bs b o z).1
  have hno : t.heap.NoLimit := e0.mod.nolimit.keeps fun b o z => (e0.bs b o z).1
  refine codeAny_call_function hr.depth (hin _ _ lk) rfl S.co S.gen rfl (PySem.W.codeRec_of hin hcode) (hb _ _ _ _ ?_)
  refine wpAny_newFunctionEnv_cells S.kind (fun y hy => ?_) fun env he t1 hx => ?_
  · obtain ⟨n, u⟩ := y
    rcases S.par n (List.of_mem_zip hy).1 with z | z
    · exact Or.inl z
    · exact Or.inr ⟨z, PySem.W.cellsFrom_some _ _ _ (Or.inl z)⟩
  · subst he
    refine ⟨hno.keeps hx.toInCall.keep, codeAny_func ?_⟩
    obtain ⟨τ, hτ, hq⟩ := go cv A fr t H xs Q E gd (hr.deeper _) hs
    have J := inv_start (CX := CX) (E := E) S hr.hd e0 (hm _ _ _ _ hs) rv hx
    refine wpAny_mono (hτ.run [] t1 (start N xs) H _ J hq) (fun fl t2 h2 => ?_) fun _ _ z => z
    cases fl with
    | brk => exact False.elim h2.choose_spec.choose_spec.2
    | cont => exact False.elim h2.choose_spec.choose_spec.2
    | next =>
      obtain ⟨σ2, H2, J2, q2⟩ := h2
      exact ⟨V.non, H2, J2.os, J2.bare, J2.base, J2.hok, rfl, q2⟩
    | ret u =>
      obtain ⟨v2, σ2, H2, J2, r2, q2⟩ := h2
      exact ⟨v2, H2, J2.os, J2.bare, J2.base, J2.hok, r2, q2⟩
end
section
variable {X : Cx} {CX : CXT} {k : Nat} {f : Addr} {fd : FuncData} {ps : List Str} {sp : Sp} {dvs : List V} {ds : List Value} {E : XK} {x : Str} {p pos : Pos} {e : Expr} {es : List Expr} {t : TA}
theorem go_g {pins : List (Addr × Obj)} {σ : L2.St} {H : Hp} {s : Shared} {Q : VK} {us : List Value} {xs : List V} (F : FnG X.prog X.w X.K X.mg X.base CX k f fd ps sp) (gd : X.A.guards = some []) (hr : Room k X.A) (hb : Binds X.K fd ps ds) (hd : Vals dvs ds)
    (hx : Passes CX X E) (I : Inv X pins σ H s) (r : Vals xs us) (h : sp (xs ++ dvs) H Q E) : wpAny (model X.prog X.w) X.A (call (.ref f) us) (EP X pins σ Q) X.xe s := by
  have rr := Vals.append r hd
  refine wpAny_call (codeAny_mono (F.does X.A gd hr X.stack s H I.env0 ⟨us, []⟩ (us ++ ds) (xs ++ dvs) (hb s us I.kIn (by rw [← rr.length]; exact F.many _ _ _ _ h)) rr Q E h) fun z s2 hz => ?_)
  match z, hz with
  | .error e, hz => exact hx pins σ H s e s2 I hz
  | .ok (.ret u), hz => exact I.after hz
theorem pe_callG (F : FnG X.prog X.w X.K X.mg X.base CX k f fd ps sp) (gd : X.A.guards = some []) (hr : Room k X.A) (hg : Gl X x) (hm : X.mg x = some (.ref f)) (hk : PySem.W.keepIn X.K (.ref f) = true) (hb : Binds X.K fd ps ds) (hd : Vals dvs ds) (hx : Passes CX X E)
    (ha : PA X (e :: es) t) (hdb : (x == ("__debug__" : Str)) = false := by decide) (he : starEach (e :: es) X.env = (false, eval e X.env) :: starEach es X.env := by rfl) (hpl : (backTo pos (starEach es X.env)).any (·.1) = false := by rfl) :
    PE X (.Call (.Name x p) (e :: es) [] pos) (tCall sp dvs E t) :=
  ⟨fun pins s σ H Q I h => wpAny_Call_Name_kw (ld_glob I hg hm (PySem.W.callWith_K (h₀ := X.base) I.ok.mod.kin hk (thn (ha.run pos pins s σ H _ I h) fun us s1 ⟨vs, H1, J, r, q⟩ => ⟨J.kIn, go_g F gd hr hb hd hx J r q⟩) he hpl) hdb)⟩
theorem pe_callG0 (F : FnG X.prog X.w X.K X.mg X.base CX k f fd ps sp) (gd : X.A.guards = some []) (hr : Room k X.A) (hg : Gl X x) (hm : X.mg x = some (.ref f)) (hk : PySem.W.keepIn X.K (.ref f) = true) (hb : Binds X.K fd ps ds) (hd : Vals dvs ds) (hx : Passes CX X E)
    (hdb : (x == ("__debug__" : Str)) = false := by decide) : PE X (.Call (.Name x p) [] [] pos) (tCall sp dvs E tNil) :=
  ⟨fun pins s σ H Q I h => wpAny_Call_Name_kw (ld_glob I hg hm (PySem.W.callWith_K0 I.kIn hk (go_g (us := []) F gd hr hb hd hx I .nil h)) hdb)⟩
end
/-! ### repr -/
def rRepr (K : PySem.W.Frag) : List V → Hp → VK → Prop := fun xs H Q => ∃ (x : V) (d : PyData), xs = [x] ∧ Dp K H x d ∧ d.showable = true ∧ SeqAt.shaped d = true ∧ d.shown.length ≤ sizeLine ∧ Q (.str d.shown) H
theorem call_repr {X : Cx} (gd : X.A.guards = some []) (hu : X.A.units + 65 < cLine) : CallR X (.builtin "repr") (rRepr X.K) := by
  intro pins s σ H xs us Q I r h
  obtain ⟨x, d, rfl, hd, hs, hsh, hl, q⟩ := h
  cases r with
  | cons rx rr =>
    cases rr
    rename_i u
    have hlay : d.canLay0 = true := SeqAt.canLay_of_shaped hsh
    have hdep : d.depth ≤ 64 := by
      have z : (d.canLay0 && decide (d.depth ≤ 64)) = true := hsh
      exact of_decide_eq_true (Bool.and_eq_true_iff.mp z).2
    obtain ⟨as, rd⟩ := Dp.reads I d x u hd rx
    have fin : ∀ h' v tk, (∀ b o, s.heap.get? b = some o → h'.get? b = some o) → EP X pins σ Q (.str d.shown v) { s with heap := h', toks := tk } := fun h' v tk hk => ⟨.str d.shown, H, I.kept hk, ⟨v, rfl⟩, q⟩
    cases hd with
    | non => cases rx; exact PySem.P.repr_of_none (fin _ _ _ fun _ _ z => z)
    | bl b => cases rx; exact PySem.P.repr_of_bool (fin _ _ _ fun _ _ z => z)
    | int i => obtain ⟨t, rfl⟩ := rx; exact PySem.P.repr_of_int (of_decide_eq_true hs) (fin _ _ _ fun _ _ z => z)
    | str y => obtain ⟨t, rfl⟩ := rx; exact PySem.P.repr_of_str (fin _ _ _ fun _ _ z => z) hl
    | lst _ _ => cases rx; exact repr_of_reads' rd hs (PyData.noDict_hsm (PyData.hasDict_of_canLay _ hlay)) gd (by omega) (fun _ _ z => z) fin hl
    | tup _ _ => cases rx; exact repr_of_reads' rd hs (PyData.noDict_hsm (PyData.hasDict_of_canLay _ hlay)) gd (by omega) (fun _ _ z => z) fin hl
theorem k_repr {X : Cx} (K : PySem.W.Frag) (h : X.K = K) (gd : X.A.guards = some []) (hu : X.A.units + 65 < cLine) : CallR X (.builtin "repr") (rRepr K) := by subst h; exact call_repr gd hu
theorem hu65 {k : Nat} {A : Around} (r : Room k A) : A.units + 65 < cLine := by have := r.un; omega
/-- rows of whole numbers, shown -/
theorem dp_ints {K : PySem.W.Frag} {H : Hp} : ∀ ns : List Int, DpAll K H (ns.map V.int) (ns.map PyData.int)
  | [] => .nil
  | n :: ns => .cons (.int n) (dp_ints ns)
theorem dp_row {K : PySem.W.Frag} {H : Hp} {a : Addr} {ns : List Int} (h : SqL K H a (ns.map V.int)) : Dp K H (.ref a) (.list (ns.map PyData.int)) := .lst h (dp_ints ns)
def shownR (ns : List Int) : Str := PyData.shown (.list (ns.map PyData.int))
theorem ints_lay : ∀ ns : List Int, PyData.canLayAll0 (ns.map PyData.int) = true
  | [] => rfl
  | n :: ns => by simp [PyData.canLayAll0, PyData.canLay0, ints_lay ns]
theorem ints_depth : ∀ ns : List Int, PyData.depthAll (ns.map PyData.int) ≤ 1
  | [] => by simp [PyData.depthAll]
  | n :: ns => by
    have := ints_depth ns
    simp only [List.map_cons, PyData.depthAll, PyData.depth]
    omega
theorem row_shaped (ns : List Int) : SeqAt.shaped (.list (ns.map PyData.int)) = true := by
  have h := ints_depth ns
  show (PyData.canLay0 (.list (ns.map PyData.int)) && decide (PyData.depth (.list (ns.map PyData.int)) ≤ 64)) = true
  rw [Bool.and_eq_true]
  exact ⟨by simp only [PyData.canLay0]; exact ints_lay ns, decide_eq_true (by simp only [PyData.depth]; omega)⟩
theorem ints_show : ∀ ns : List Int, (∀ n ∈ ns, n.natAbs.log2 < 1920) → PyData.showableAll (ns.map PyData.int) = true
  | [], _ => rfl
  | n :: ns, h => by
    simp only [List.map_cons, PyData.showableAll, PyData.showable]
    rw [decide_eq_true (h n List.mem_cons_self), ints_show ns fun m hm => h m (List.mem_cons_of_mem _ hm)]
    rfl
/-! ### sorted, any number -/
theorem k_sortedI {X : Cx} (K : PySem.W.Frag) (h : X.K = K) : CallR X (.builtin "sorted") (rSortedI K) := by subst h; exact cr_sortedI
def rSortedA (K : PySem.W.Frag) : List V → Hp → VK → Prop := fun vs H Q => ∃ (a : Addr) (xs : List Str), vs = [V.ref a] ∧ SqL K H a (xs.map V.str) ∧ ∀ (ys : List Str) (p : Addr), ys.Perm xs → sortedS ys = true → H p = none → Q (.ref p) (upd H p (.lst (ys.map V.str)))
theorem k_sortedS {X : Cx} (K : PySem.W.Frag) (h : X.K = K) : CallR X (.builtin "sorted") (rSortedA K) := by
  subst h
  intro pins s σ H vs us Q I r h
  obtain ⟨a, xs, rfl, hs, q⟩ := h
  obtain ⟨its, rv, hl, hz⟩ := I.list hs
  rw [Vals.ref1 r]
  refine sorted_strsAny hl.isList rv.strs (by rw [← rv.length]; exact hz) fun out ys h1 h2 h3 => ?_
  obtain ⟨ep, at_⟩ := sortedAll_at s.heap its out
  refine ⟨.ref _, upd H (s.heap.objs.size + 1) (.lst (ys.map V.str)), I.laid (t' := s.toks) (fun _ _ => sortedAll_old) (Nat.le_succ _) ⟨?_, out.toList, ep, vals_of_strs h1, at_⟩, rfl, q ys _ h2 h3 (I.hok.fresh (Nat.le_succ _))⟩
  rw [List.length_map, h2.length_eq]
  rw [List.length_map] at hz
  exact hz
theorem sorted_le : ∀ (l : List Str) (p : Str), risingS p l = true → (p :: l).Pairwise fun x y => x.cps.toList ≤ y.cps.toList
  | [], p, _ => List.pairwise_singleton _ _
  | x :: r, p, h => by
    obtain ⟨h1, h2⟩ := Bool.and_eq_true_iff.mp (show (!ltCps x.cps.toList p.cps.toList && risingS x r) = true from h)
    have hpx : p.cps.toList ≤ x.cps.toList := by
      rw [ltCps_eq] at h1
      intro z
      rw [decide_eq_true z] at h1
      cases h1
    have ih := sorted_le r x h2
    refine List.pairwise_cons.mpr ⟨fun y hy => ?_, ih⟩
    rcases List.mem_cons.mp hy with rfl | hy
    · exact hpx
    · exact List.le_trans hpx ((List.pairwise_cons.mp ih).1 y hy)
theorem sorted_uniq {xs ys : List Str} (h : xs.Perm ys) (hx : sortedS xs = true) (hy : sortedS ys = true) : xs = ys := by
  have pw : ∀ l : List Str, sortedS l = true → l.Pairwise fun x y => x.cps.toList ≤ y.cps.toList := fun l hl => by
    cases l with
    | nil => exact .nil
    | cons x r => exact sorted_le r x hl
  refine List.Perm.eq_of_pairwise (fun x y _ _ h1 h2 => ?_) (pw _ hx) (pw _ hy) h
  have e := List.le_antisymm h1 h2
  cases x with | mk a => cases y with | mk b => exact congrArg Str.mk (Array.toList_inj.mp e)
end My

namespace My
open PySem PySem.Spec PyProof.Rows L2 Pre
/-! ### the end of a law whose promise stands in no repr -/
/-- the script, tracked or one of the module's own objects -/
theorem script_env {P : Program} {w : World} {K : PySem.W.Frag} {mg mb : Str → Option Value} {a : Addr} {t : Shared} {us : List Value} {ns : List Int} (hin : K.In t.heap) (hgl : t.heap.Ns mainGlobals mg) (hbl : t.heap.Ns builtinsNs mb)
    (hbo : ∀ x : Str, x ≠ "__name__" → mb x = bootBuiltins x) (hno : t.heap.NoLimit) (hgs : t.gens = #[]) (at_a : t.heap.get? a = some { cls := .type "list", data := .seq us.toArray }) (ints_ : IntsAre us ns) (few : ns.length ≤ sizeLine) :
    ∃ (H : Hp) (base : Heap), Only H ∧ SqL K H a (ns.map V.int) ∧ K.In base ∧ base.Ns mainGlobals mg ∧ Env0 P w K mg base callerA [] t H := by
  have rv := vals_ints ints_
  have ul := ints_.length
  -- the module and the rest of the heap, whatever is tracked at a alone
  have rest : ∀ H : Hp, Only H → (∀ b, b ≠ a → H b = none) → (H a = none ∨ K.lookup a = none) → HOk P w H t.heap → SqL K H a (ns.map V.int) → ∃ (H : Hp) (base : Heap), Only H ∧ SqL K H a (ns.map V.int) ∧ K.In base ∧ base.Ns mainGlobals mg ∧ Env0 P w K mg base callerA [] t H := by
    intro H h1 h2 h3 h4 h5
    have dictFree : ∀ b o, t.heap.get? b = some o → (∃ es n, o.data = Data.dict es n) → H b = none := fun b o z ⟨es, n, d⟩ => by
      by_cases hb : b = a
      · rw [hb, at_a] at z
        cases z
        cases d
      · exact h2 b hb
    have nsKept : ∀ (b : Addr) (m : Str → Option Value), t.heap.Ns b m → (hidT t.heap H).Ns b m := fun b m z => by
      obtain ⟨o, es, ep, z1, z2, z3⟩ := z
      exact ⟨o, es, ep, hidT_get z1 (dictFree b o z1 ⟨_, _, z2⟩), z2, z3⟩
    have inKept : K.In (hidT t.heap H) := fun b o z => hidT_get (hin b o z) (by
      by_cases hb : b = a
      · rcases h3 with z3 | z3
        · rw [hb]; exact z3
        · rw [hb, z3] at z; cases z
      · exact h2 b hb)
    obtain ⟨mc, l1, l2⟩ := hno
    refine ⟨H, hidT t.heap H, h1, h5, inKept, nsKept _ _ hgl, ⟨rfl, ⟨inKept, nsKept _ _ hgl, ⟨mb, nsKept _ _ hbl, hbo⟩, ⟨mc, nsKept _ _ l1, l2⟩⟩, fun b o z => of_hidT z, ?_, trivial, fun b z => (nomatch z), h4, .of_eq hgs⟩⟩
    rw [hidT_size]
    exact Nat.le_refl _
  cases hk : K.lookup a with
  | some o =>
    have z := hin a o hk
    rw [at_a] at z
    cases z
    exact rest (fun _ => none) (fun _ => .inl rfl) (fun _ _ => rfl) (.inl rfl) (fun _ _ z => nomatch z) (.inr ⟨_, us.toArray, _, hk, rfl, rfl, rfl, by rw [List.size_toArray, ul]; exact few, by simpa using rv⟩)
  | none =>
    refine rest (upd (fun _ => none) a (.frz { cls := .type "list", data := .seq us.toArray } (.lst (ns.map V.int)))) (fun b => ?_) (fun b hb => upd_ne hb) (.inr hk) (fun b u z => ?_) (.inl (.inr ⟨_, upd_same⟩))
    · by_cases hb : b = a
      · rw [hb]; exact .inr ⟨_, _, upd_same⟩
      · exact .inl (upd_ne hb)
    · by_cases hb : b = a
      · subst hb
        rw [upd_same] at z
        cases z
        exact ⟨at_a, by rw [List.length_map]; exact few, us, _, rv, at_a⟩
      · rw [upd_ne hb] at z
        cases z
theorem end_g {l : PySem.W.OpenLaw} {n k : Nat} {q : Program} {loose : List Str} {XP : (Str → Option Value) → Heap → Prop} {YP : World → Heap → Prop} {d : DefRec} {x : Str} (hn : l.most = some n) (hn2 : n ≤ sizeLine) (hdf : d.params.defaults = []) (hr : Room k callerA)
    (F : ∀ (w : World) (mg : Str → Option Value) (fa : Addr) (h : Heap), YP w h → h.Ns mainGlobals mg → mg d.name = some (.ref fa) →
      ∃ (K : PySem.W.Frag) (fd : FuncData) (sp : Sp), K.In h ∧ (∀ (s : Shared) (u : Value), BindsTo s fd ⟨[u], []⟩ [(x, u)]) ∧
        (∀ (H : Hp) (a : Addr) (ns : List Int), ns.length ≤ n → SqL K H a (ns.map V.int) → sp [.ref a] H (fun v _ => v = .bl true) fun _ _ _ => False) ∧
        ∀ base : Heap, K.In base → base.Ns mainGlobals mg → FnG l.prog w K mg base CX0 k fa fd [x] sp) :
    PySem.W.WalkO q loose XP YP l.row.toRowW d [] (fun f vs => PySem.call f vs) := by
  refine Att.attach_call hn hdf fun w s₀ t mg mb fa o pm cd doc a us ns G Y ho hd hcd hmg at_a hi hl hg => ?_
  obtain ⟨K, fd, sp, hin, hb, hsp, hF⟩ := F w mg fa _ Y G.T.g hmg
  obtain ⟨H, base, only, hS, hKb, hgb, e0⟩ := script_env (P := l.prog) (w := w) hin G.T.g G.T.b G.T.builtins G.T.nolimit hg at_a hi (Nat.le_trans hl hn2)
  refine codeAny_mono ((hF base hKb hgb).does callerA rfl hr [] t H e0 ⟨[.ref a], []⟩ [.ref a] [.ref a] (hb t (.ref a)) (.cons rfl .nil) _ _ (hsp H a ns hl hS)) fun r t2 h => ?_
  match r, h with
  | .error e, h => exact (show False from h).elim
  | .ok (.ret u), h =>
    obtain ⟨v, H2, os, bare, un, hok2, rv, qv⟩ := h
    have qv : v = .bl true := qv
    subst qv
    have rv : u = Value.bool true := rv
    subst rv
    refine ⟨rfl, OldK.of_keep fun b o z => ?_, os, bare⟩
    rcases only b with hb | ⟨ob, ys, hb⟩
    · exact un.keep b o z hb (fun y => nomatch y) (fun y => nomatch y)
    · have z1 : t.heap.get? b = some ob := (e0.hok b _ hb).1
      have z2 : t2.heap.get? b = some ob := (hok2 b _ (un.frzs b ob _ hb)).1
      rw [z] at z1
      cases z1
      exact z2
end My

namespace My
open PySem PySem.Spec PyProof.Rows L2 Pre
/-! ### repr of an empty dict, too -/
def rReprX (K : PySem.W.Frag) : List V → Hp → VK → Prop := fun xs H Q => rRepr K xs H Q ∨ ∃ a : Addr, xs = [.ref a] ∧ H a = some (.dK []) ∧ Q (.str (PyData.dict []).shown) H
theorem call_reprX {X : Cx} (gd : X.A.guards = some []) (hu : X.A.units + 65 < cLine) : CallR X (.builtin "repr") (rReprX X.K) := by
  intro pins s σ H xs us Q I r h
  rcases h with h | ⟨a, rfl, ha, q⟩
  · exact call_repr gd hu pins s σ H xs us Q I r h
  · cases r with
    | cons rx rr =>
      cases rr
      cases rx
      have hx := I.hok a _ ha
      obtain ⟨t1, t2, vs, rel, o, es, ep, ho, h2, h3, h4⟩ := hx
      obtain rfl : vs = [] := by cases rel; rfl
      have he : es.toList = [] := by
        have h5 := h4.2.1
        cases hl : es.toList with
        | nil => rfl
        | cons e r => rw [hl] at h5; cases h5
      have rd : Reads s.heap (.ref a) (.dict []) [a] := .dict (as := []) (bs := []) ho h2.1 h3 (by rw [he]; exact .nil) (by rw [he]; exact .nil)
      have hd : (PyData.dict []).depth ≤ 64 := by decide +kernel
      have fin : ∀ h' v tk, (∀ b o, s.heap.get? b = some o → h'.get? b = some o) → EP X pins σ Q (.str (PyData.dict []).shown v) { s with heap := h', toks := tk } := fun h' v tk hk => ⟨.str (PyData.dict []).shown, H, I.kept hk, ⟨v, rfl⟩, q⟩
      exact repr_of_reads' rd rfl (fun _ m => by
        rw [List.mem_singleton] at m
        rw [← m] at t2
        simp at t2) gd (by omega) (fun _ _ z => z) fin (by decide +kernel)
theorem k_reprX {X : Cx} (K : PySem.W.Frag) (h : X.K = K) (gd : X.A.guards = some []) (hu : X.A.units + 65 < cLine) : CallR X (.builtin "repr") (rReprX K) := by subst h; exact call_reprX gd hu
end My

namespace My
open PySem PySem.Spec PyProof.Rows PySem.W L2 Pre
/-- products of one small number, or of two that are not too great -/
def CMulA (i j : Int) : Prop := CMul i j ∨ CMulX i j
theorem op_mulA {X : Cx} : OpR X (binaryOp .Mult) (rI CMulA fun i j => .int (i * j)) := fun pins s σ H x y v u Q I r1 r2 h => by
  obtain ⟨i, j, ex, ey, hc, q⟩ := h
  rcases hc with hc | hc
  · exact op_mul pins s σ H x y v u Q I r1 r2 ⟨i, j, ex, ey, hc, q⟩
  · exact op_mulX pins s σ H x y v u Q I r1 r2 ⟨i, j, ex, ey, hc, q⟩
end My

namespace My
open PySem PySem.Spec PyProof.Rows L2 Pre
theorem _root_.L2.TyX.same {K : PySem.W.Frag} {H H' : Hp} {v : V} {t : Value} (s : Same H H') (h : TyX K H v t) : TyX K H' v t := by
  cases h with
  | base b => exact .base (by
    cases b with
    | non => exact .non
    | bl y => exact .bl y
    | int i => exact .int i
    | str y => exact .str y
    | flt y => exact .flt y
    | lst e => exact .lst (s _ _ e)
    | frz e => exact .frz (s _ _ e)
    | tup e => exact .tup (s _ _ e)
    | dK e => exact .dK (s _ _ e)
    | dT e => exact .dT (s _ _ e)
    | ins e cl ha hn htk hm => exact .ins (s _ _ e) cl ha hn htk hm)
  | byt b => exact .byt b
  | set e => exact .set (s _ _ e)
  | kList e c => exact .kList e c
  | kTuple e c => exact .kTuple e c
  | kDict e c => exact .kDict e c
  | fTuple e => exact .fTuple (s _ _ e)
  | fDict e => exact .fDict (s _ _ e)
end My

namespace My
open PySem PySem.Spec PyProof.Rows L2 Pre
/-! ### whole numbers, and what is none -/
/-- what is no whole number -/
def BadN (K : PySem.W.Frag) (H : Hp) (v : V) : Prop := (∃ b : Bool, v = .bl b) ∨ ∃ T : String, TyX K H v (.type T) ∧ kitB T "int" = some false
def NumV (K : PySem.W.Frag) (H : Hp) (v : V) (lo : Int) (hi : Option Int) (b : Bool) : Prop := (∃ i : Int, v = .int i ∧ b = decide (lo ≤ i ∧ ∀ j, hi = some j → i ≤ j)) ∨ (BadN K H v ∧ b = false)
theorem BadN.same {K : PySem.W.Frag} {H H' : Hp} {v : V} (s : Same H H') (h : BadN K H v) : BadN K H' v := by
  rcases h with h | ⟨T, ty, e⟩
  · exact .inl h
  · exact .inr ⟨T, ty.same s, e⟩
theorem NumV.same {K : PySem.W.Frag} {H H' : Hp} {v : V} {lo : Int} {hi : Option Int} {b : Bool} (s : Same H H') (h : NumV K H v lo hi b) : NumV K H' v lo hi b := by
  rcases h with h | ⟨h, e⟩
  · exact .inl h
  · exact .inr ⟨h.same s, e⟩
/-- a bound: a number or None -/
def hiV : Option Int → V
  | some j => .int j
  | none => .non
local macro_rules | `(tactic| walk_at "go") => `(tactic| repeat (first | (with_reducible first | refine iteT ?_ | refine iteF ?_ | refine iteNtt ?_ | refine iteNff ?_ | refine iteET (by omega) ?_ | refine iteEF (by omega) ?_ | refine iteENT (by omega) ?_ | refine iteENF (by omega) ?_ | refine iteDT (by omega) ?_ | refine iteDF (by omega) ?_ | refine iteNT (by omega) ?_ | refine iteNF (by omega) ?_) | refine ⟨_, rfl, ?_⟩ | refine ⟨_, _, rfl, rfl, ?_⟩ | refine ⟨_, _, rfl, ?_⟩ | refine ⟨rfl, ?_⟩ | refine .inl ⟨_, rfl, ?_⟩ | refine .inr ⟨_, rfl, ?_⟩))
local macro_rules | `(tactic| walk_at "b") => `(tactic| try dsimp (config := { proj := false, iota := false, eta := false, zeta := false }) only)
section
variable {P : Program} {w : World} {K : PySem.W.Frag} {mg : Str → Option Value} {base : Heap} [pf : Sup.PF P fileS]
def sp_is_whole (K : PySem.W.Frag) : Sp := fun vs H Q _ => ∃ v : V, vs = [v] ∧ ((∃ i : Int, v = .int i ∧ Q (.bl true) H) ∨ (BadN K H v ∧ Q (.bl false) H))
theorem G_is_whole (T : Top K mg) : FnOk P w K mg base CX0 1 T.f_is_whole T.fd_is_whole ["value"] (sp_is_whole K) := by
  refine T.F_is_whole.ok sc_is_whole (fun vs H Q E h => by obtain ⟨v, rfl, _⟩ := h; rfl) (fun cdv A outer s H vs Q E hr h => ?_)
  obtain ⟨v, rfl, h⟩ := h
  refine ⟨_, PSs.nox (pss_one (ps_ret (pe_and (pe_callB (k_isi K rfl) (by rfl) T.n_isinstance (by decide +kernel) (pa_cons (pv 0) (pa_cons (pe_bltn (v := .ty "int") (by rfl) T.n_int (by decide +kernel) rfl) pa_nil))) (pe_one (pe_not (pe_callB (k_isi K rfl) (by rfl) T.n_isinstance (by decide +kernel) (pa_cons (pv 0) (pa_cons (pe_bltn (v := .ty "bool") (by rfl) T.n_bool (by decide +kernel) rfl) pa_nil)))))))), ?_⟩
  rcases h with ⟨i, rfl, q⟩ | ⟨⟨b, rfl⟩ | ⟨T, ty, hT⟩, q⟩
  · refine ⟨_, rfl, _, _, _, _, true, rfl, .ty _, .base (.int i), kit_ty (by decide +kernel), true, rfl, iteT ?_⟩
    exact ⟨_, rfl, _, _, _, _, false, rfl, .ty _, .base (.int i), kit_ty (by decide +kernel), false, rfl, q⟩
  · refine ⟨_, rfl, _, _, _, _, true, rfl, .ty _, .base (.bl b), kit_ty (by decide +kernel), true, rfl, iteT ?_⟩
    exact ⟨_, rfl, _, _, _, _, true, rfl, .ty _, .base (.bl b), kit_ty (by decide +kernel), true, rfl, q⟩
  · exact ⟨_, rfl, _, _, _, _, false, rfl, .ty _, ty, kit_ty hT, false, rfl, iteF q⟩
def sp_is_between (K : PySem.W.Frag) : Sp := fun vs H Q _ => ∃ (v : V) (lo : Int) (hi : Option Int) (b : Bool), vs = [v, .int lo, hiV hi] ∧ NumV K H v lo hi b ∧ Q (.bl b) H
theorem G_is_between (T : Top K mg) : FnOk P w K mg base CX0 2 T.f_is_between T.fd_is_between ["value", "low", "high"] (sp_is_between K) := by
  refine T.F_is_between.ok sc_is_between (fun vs H Q E h => by obtain ⟨v, lo, hi, b, rfl, _⟩ := h; rfl) (fun cdv A outer s H vs Q E hr h => ?_)
  obtain ⟨v, lo, hi, b, rfl, hv, q⟩ := h
  refine ⟨_, PSs.nox (pss_one (ps_ret (pe_and (pe_call (G_is_whole (P := P) T) (hr.mono (by decide)) (by rfl) T.g_is_whole T.F_is_whole.kp T.b_is_whole .nil pass0 (pa_cons (pv 0) pa_nil)) (pe_and (pe_cmpR op_le (pv 1) (pv 0) (nomark _)) (pe_one (pe_or (pe_cmpR op_isN (pv 2) pe_non (nomark _)) (pe_one (pe_cmpR op_le (pv 0) (pv 2) (nomark _))))))))), ?_⟩
  rcases hv with ⟨i, rfl, rfl⟩ | ⟨hv, rfl⟩
  · refine ⟨_, rfl, _, rfl, .inl ⟨i, rfl, true, rfl, iteT ?_⟩⟩
    refine ⟨_, rfl, _, rfl, _, _, rfl, rfl, _, rfl, ite2 (fun e => ?_) (fun e => ?_)⟩
    · have e1 : lo ≤ i := of_decide_eq_true e
      cases hi with
      | none =>
        refine ⟨_, rfl, rfl, _, rfl, iteT ?_⟩
        rw [decide_eq_true ⟨e1, fun j h => nomatch h⟩] at q
        exact q
      | some j =>
        refine ⟨_, rfl, rfl, _, rfl, iteF ⟨_, rfl, _, rfl, _, _, rfl, rfl, ?_⟩⟩
        have e2 : decide (lo ≤ i ∧ ∀ j', some j = some j' → i ≤ j') = decide (i ≤ j) := by
          by_cases h : i ≤ j
          · rw [decide_eq_true h, decide_eq_true]
            exact ⟨e1, fun j' e => by cases e; exact h⟩
          · rw [decide_eq_false h, decide_eq_false]
            exact fun z => h (z.2 j rfl)
        rw [e2] at q
        exact q
    · have e1 : ¬ lo ≤ i := fun h => e (decide_eq_true h)
      rw [decide_eq_false fun z => e1 z.1] at q
      exact q
  · exact ⟨_, rfl, _, rfl, .inr ⟨hv, false, rfl, iteF q⟩⟩
def sp_check_number (K : PySem.W.Frag) (C : Addr) : Sp := fun vs H Q E => ∃ (v : V) (lo : Int) (hi : Option Int) (b : Bool), vs = [v, .int lo, hiV hi] ∧ NumV K H v lo hi b ∧ (b = true → Q .non H) ∧ (b = false → ∀ d, H d = none → E (.ref C) (some d) (upd H d (.xd [("value", v)])))
theorem G_check_number (T : Top K mg) : FnOk P w K mg base (L2.CX P w) 3 T.f_check_number T.fd_check_number ["number", "low", "high"] (sp_check_number K T.C_InvalidNumber) := by
  refine T.F_check_number.ok (CX := L2.CX P w) sc_check_number (fun vs H Q E h => by obtain ⟨v, lo, hi, b, rfl, _⟩ := h; rfl) (fun cdv A outer s H vs Q E hr h => ?_)
  obtain ⟨v, lo, hi, b, rfl, hv, q1, q2⟩ := h
  refine ⟨_, (pss_one (ps_if (pt_not (pt_val (pe_call (G_is_between (P := P) T) (hr.mono (by decide)) (by rfl) T.g_is_between T.F_is_between.kp T.b_is_between .nil pass0 (pa_cons (pv 0) (pa_cons (pv 1) (pa_cons (pv 2) pa_nil))))))
    (pss_one (ps_raise rfl (takes_of rfl rfl rfl rfl) (pmk_oex T.er_InvalidNumber.sup.T T.er_InvalidNumber.ini T.er_InvalidNumber.ity (G_InvalidNumber___init__ (P := P) (CX := CX0) T) (hr.mono (by decide)) T.er_InvalidNumber.bnd .nil pass0 (by rfl) T.gc_InvalidNumber (pa_cons (pv 0) pa_nil))))
    pss_nil)), ?_⟩
  refine ⟨_, rfl, _, rfl, _, rfl, v, lo, hi, b, rfl, hv, _, rfl, ?_⟩
  cases b with
  | true => exact iteF (q1 rfl)
  | false => exact iteT ⟨_, rfl, mk_sup fun d nd => q2 rfl d nd⟩
end
end My

namespace My
open PySem PySem.Spec PyProof.Rows L2 Pre
/-! ### rules, in a program: what is asked of them -/
def isI : V → Bool
  | .int _ => true
  | _ => false
/-- an item that may stand in a list -/
def Item (K : PySem.W.Frag) (H : Hp) (x : V) : Prop := (∃ i, x = .int i) ∨ (isI x = false ∧ BadN K H x ∧ ∃ d, Dp K H x d ∧ PyData.canLay0 d = true ∧ PyData.depth d ≤ 1)
theorem Item.same {K : PySem.W.Frag} {H H' : Hp} {x : V} (s : Same H H') (h : Item K H x) : Item K H' x := by
  rcases h with h | ⟨a, b, d, e, f⟩
  · exact .inl h
  · exact .inr ⟨a, b.same s, d, Pre.dp_same s _ _ e, f⟩
/-- what is no list -/
def NoL (K : PySem.W.Frag) (H : Hp) (v : V) : Prop := ∃ T : String, TyX K H v (.type T) ∧ kitB T "list" = some false
theorem NoL.same {K : PySem.W.Frag} {H H' : Hp} {v : V} (s : Same H H') (h : NoL K H v) : NoL K H' v := by
  obtain ⟨T, ty, e⟩ := h
  exact ⟨T, ty.same s, e⟩
/-- what is no rule -/
def BadR (K : PySem.W.Frag) (H : Hp) (v : V) : Prop := NoL K H v ∨ ∃ (a : Addr) (xs : List V), v = .ref a ∧ H a = some (.lst xs) ∧ xs.length ≤ 1000 ∧ (∀ x ∈ xs, Item K H x) ∧ (xs.all isI = false ∨ ∃ ws : List Int, xs = ws.map V.int ∧ (8 < ws.length ∨ ∃ w ∈ ws, 32768 < (w.natAbs : Nat)))
theorem BadR.same {K : PySem.W.Frag} {H H' : Hp} {v : V} (s : Same H H') (h : BadR K H v) : BadR K H' v := by
  rcases h with h | ⟨a, xs, e, h, r⟩
  · exact .inl (h.same s)
  · exact .inr ⟨a, xs, e, s _ _ h, r.1, fun x hx => (r.2.1 x hx).same s, r.2.2⟩
def GoodR (ws : List Int) : Prop := ws.length ≤ 8 ∧ ∀ w ∈ ws, w.natAbs ≤ 32768
theorem bad_data {K : PySem.W.Frag} {H : Hp} : ∀ xs : List V, (∀ x ∈ xs, Item K H x) → ∃ ds, DpAll K H (xs.filter fun x => !isI x) ds ∧ PyData.canLayAll0 ds = true ∧ PyData.depthAll ds ≤ 1 ∧ (ds = [] ↔ xs.all isI = true)
  | [], _ => ⟨[], .nil, rfl, by rw [PyData.depthAll]; decide, by simp⟩
  | x :: r, h => by
    obtain ⟨ds, h1, h2, h3, h4⟩ := bad_data r fun y hy => h y (List.mem_cons_of_mem _ hy)
    rcases h x List.mem_cons_self with ⟨i, rfl⟩ | ⟨a, _, d, e, f, g⟩
    · exact ⟨ds, h1, h2, h3, by rw [h4]; simp [isI]⟩
    · refine ⟨d :: ds, ?_, by rw [PyData.canLayAll0, h2, f]; rfl, by rw [PyData.depthAll]; omega, by simp [a]⟩
      rw [List.filter_cons, if_pos (by rw [a]; rfl)]
      exact .cons e h1
theorem dpAll_same {K : PySem.W.Frag} {H H' : Hp} (s : Same H H') : ∀ {xs : List V} {ds : List PyData}, DpAll K H xs ds → DpAll K H' xs ds
  | _, _, .nil => .nil
  | _, _, .cons h t => .cons (Pre.dp_same s _ _ h) (dpAll_same s t)
local macro_rules | `(tactic| walk_at "go") => `(tactic| repeat (first | (with_reducible first | refine iteT ?_ | refine iteF ?_ | refine iteNtt ?_ | refine iteNff ?_ | refine iteET (by omega) ?_ | refine iteEF (by omega) ?_ | refine iteENT (by omega) ?_ | refine iteENF (by omega) ?_ | refine iteDT (by omega) ?_ | refine iteDF (by omega) ?_ | refine iteNT (by omega) ?_ | refine iteNF (by omega) ?_) | refine ⟨_, rfl, ?_⟩ | refine ⟨_, _, rfl, rfl, ?_⟩ | refine ⟨_, _, rfl, ?_⟩ | refine ⟨rfl, ?_⟩ | refine .inl ⟨_, rfl, ?_⟩ | refine .inr ⟨_, rfl, ?_⟩))
local macro_rules | `(tactic| walk_at "b") => `(tactic| try dsimp (config := { proj := false, iota := false, eta := false, zeta := false }) only)
section
variable {P : Program} {w : World} {K : PySem.W.Frag} {mg : Str → Option Value} {base : Heap} [pf : Sup.PF P fileS]
def sp_are_wholes (K : PySem.W.Frag) : Sp := fun vs H Q _ => ∃ v : V, vs = [v] ∧ ((NoL K H v ∧ Q (.bl false) H) ∨ ∃ (a : Addr) (xs : List V), v = .ref a ∧ H a = some (.lst xs) ∧ xs.length ≤ 1000 ∧ (∀ x ∈ xs, Item K H x) ∧ ∀ H', Same H H' → Q (.bl (xs.all isI)) H')
theorem G_are_wholes (T : Top K mg) : FnOk P w K mg base CX0 2 T.f_are_wholes T.fd_are_wholes ["value"] (sp_are_wholes K) := by
  refine T.F_are_wholes.ok sc_are_wholes (fun vs H Q E h => by obtain ⟨v, rfl, _⟩ := h; rfl) (fun cdv A outer s H vs Q E hr h => ?_)
  obtain ⟨v, rfl, h⟩ := h
  refine ⟨_, PSs.nox (pss_one (ps_ret (pe_and (pe_callB (k_isi K rfl) (by rfl) T.n_isinstance (by decide +kernel) (pa_cons (pv 0) (pa_cons (pe_bltn (v := .ty "list") (by rfl) T.n_list (by decide +kernel) rfl) pa_nil))) (pe_one (pe_cmpR (k_eqD K rfl hr.units) (pe_lc (own := [("item", 1)]) (g := gName 1) (by rfl) sc_are_wholes.nd (k_piL K rfl (pv 0)) (blkOk_by (own := [("item", 1)]) (N := N_are_wholes) (sc := defScope s_are_wholes) (by decide +kernel)) (fun _ _ _ _ _ => (pg_name (i := 1) sc_are_wholes.nd rfl (by first | exact Or.inl rfl | exact Or.inr rfl))) (fun _ _ _ _ _ => (pts_one (pt_not (pt_val (pe_call (G_is_whole (P := P) T) (hr.mono (by decide)) (by rfl) T.g_is_whole T.F_is_whole.kp T.b_is_whole .nil pass0 (pa_cons (pv 1) pa_nil)))))) (fun _ _ _ _ _ => (pv 1))) (pe_lst pa_nil) (nomark _)))))), ?_⟩
  rcases h with ⟨⟨T, ty, hT⟩, q⟩ | ⟨a, xs, rfl, ha, hz, hs, q⟩
  · exact ⟨_, rfl, _, _, _, _, false, rfl, .ty _, ty, kit_ty hT, false, rfl, iteF q⟩
  · refine ⟨_, rfl, _, _, _, _, true, rfl, .ty _, .base (.lst ha), kit_ty (by decide +kernel), true, rfl, iteT ?_⟩
    refine ⟨_, rfl, a, rfl, ⟨_, .inl (.inl ha)⟩, fun D nD => ?_⟩
    refine lc_selL (K := K) (xs := xs) (xs.map fun x => if (!isI x) = true then some x else none) nD (.inl (.inl ha)) (by rw [List.length_map]) (small4 (by omega)) (fun x => rfl) ?_ ?_
    · intro i x o H' hx ho s Qt qt
      rw [List.getElem?_map, hx] at ho
      cases ho
      dsimp only at qt
      rcases hs x (List.mem_of_getElem? hx) with ⟨i, rfl⟩ | ⟨a, b, _⟩
      · exact ⟨_, rfl, _, rfl, .inl ⟨i, rfl, _, rfl, iteF (qt _ (Same.refl _))⟩⟩
      · rw [if_pos (by rw [a]; rfl)] at qt
        exact ⟨_, rfl, _, rfl, .inr ⟨b.same s, _, rfl, iteT ⟨_, rfl, qt _ (Same.refl _)⟩⟩⟩
    · intro H1 s1 hD
      obtain ⟨ds, d1, d2, d3, d4⟩ := bad_data xs hs
      have ef : (xs.map fun x => if (!isI x) = true then some x else none).filterMap id = xs.filter fun x => !isI x := by
        clear hD d1 d2 d3 d4 ha hz hs q
        induction xs with
        | nil => rfl
        | cons x r ih =>
          rw [List.map_cons, List.filterMap_cons, List.filter_cons]
          by_cases c : (!isI x) = true
          · rw [if_pos c, if_pos c, ← ih]; rfl
          · rw [if_neg c, if_neg c, ← ih]; rfl
      rw [ef] at hD
      refine ⟨Nat.zero_le _, fun p np => ?_⟩
      have sh : SeqAt.shaped (.list ds) = true := by
        unfold SeqAt.shaped
        rw [PyData.canLay0, d2, PyData.depth, Bool.true_and]
        exact decide_eq_true (by omega)
      refine ⟨.list ds, .list [], .lst (.inl (.inl (same_upd np _ _ hD))) (dpAll_same (s1.trans (same_upd np)) d1), .lst (.inl (.inl upd_same)) .nil, sh, rfl, ?_⟩
      have ee : PyData.eqv (.list ds) (.list []) = xs.all isI := by
        rw [Bool.eq_iff_iff, ← d4]
        cases ds with
        | nil => exact ⟨fun _ => rfl, fun _ => rfl⟩
        | cons y r => exact ⟨fun h => (by cases h), fun h => (by cases h)⟩
      rw [ee]
      exact q _ (s1.trans (same_upd np))
def sp_check_depth (K : PySem.W.Frag) (C : Addr) : Sp := fun vs H Q E => ∃ (v : V) (hi : Int) (b : Bool), vs = [v, .int hi] ∧ NumV K H v 1 (some hi) b ∧ (b = true → Q .non H) ∧ (b = false → ∀ d, H d = none → E (.ref C) (some d) (upd H d (.xd [("value", v)])))
theorem G_check_depth (T : Top K mg) : FnOk P w K mg base (L2.CX P w) 3 T.f_check_depth T.fd_check_depth ["depth", "most"] (sp_check_depth K T.C_InvalidDepth) := by
  refine T.F_check_depth.ok (CX := L2.CX P w) sc_check_depth (fun vs H Q E h => by obtain ⟨v, hi, b, rfl, _⟩ := h; rfl) (fun cdv A outer s H vs Q E hr h => ?_)
  obtain ⟨v, hi, b, rfl, hv, q1, q2⟩ := h
  refine ⟨_, (pss_one (ps_if (pt_not (pt_val (pe_call (G_is_between (P := P) T) (hr.mono (by decide)) (by rfl) T.g_is_between T.F_is_between.kp T.b_is_between .nil pass0 (pa_cons (pv 0) (pa_cons pe_int (pa_cons (pv 1) pa_nil))))))
    (pss_one (ps_raise rfl (takes_of rfl rfl rfl rfl) (pmk_oex T.er_InvalidDepth.sup.T T.er_InvalidDepth.ini T.er_InvalidDepth.ity (G_InvalidDepth___init__ (P := P) (CX := CX0) T) (hr.mono (by decide)) T.er_InvalidDepth.bnd .nil pass0 (by rfl) T.gc_InvalidDepth (pa_cons (pv 0) pa_nil))))
    pss_nil)), ?_⟩
  refine ⟨_, rfl, _, rfl, v, 1, some hi, b, rfl, hv, _, rfl, ?_⟩
  cases b with
  | true => exact iteF (q1 rfl)
  | false => exact iteT ⟨_, rfl, mk_sup fun d nd => q2 rfl d nd⟩
theorem all_ints : ∀ ws : List Int, (ws.map V.int).all isI = true
  | [] => rfl
  | w :: r => by rw [List.map_cons, List.all_cons, all_ints r]; rfl
theorem simple_ints {K : PySem.W.Frag} {H : Hp} (ws : List Int) : ∀ x ∈ ws.map V.int, Item K H x := fun x hx => by
  obtain ⟨i, _, rfl⟩ := List.mem_map.mp hx
  exact .inl ⟨i, rfl⟩
def sp_check_rule (K : PySem.W.Frag) (C : Addr) : Sp := fun vs H Q E => ∃ v : V, vs = [v] ∧ ((∃ (a : Addr) (ws : List Int), v = .ref a ∧ H a = some (.lst (ws.map V.int)) ∧ GoodR ws ∧ ∀ H', Same H H' → Q .non H') ∨
  (BadR K H v ∧ ∀ H' d, Same H H' → H' d = none → E (.ref C) (some d) (upd H' d (.xd [("value", v)]))))
theorem G_check_rule (T : Top K mg) : FnOk P w K mg base (L2.CX P w) 3 T.f_check_rule T.fd_check_rule ["weights"] (sp_check_rule K T.C_InvalidWeights) := by
  refine T.F_check_rule.ok (CX := L2.CX P w) sc_check_rule (fun vs H Q E h => by obtain ⟨v, rfl, _⟩ := h; rfl) (fun cdv A outer s H vs Q E hr h => ?_)
  obtain ⟨v, rfl, h⟩ := h
  refine ⟨_, (pss_cons (ps_if (PW.pt (pw_or (pt_not (pt_val (pe_call (G_are_wholes (P := P) T) (hr.mono (by decide)) (by rfl) T.g_are_wholes T.F_are_wholes.kp T.b_are_wholes .nil pass0 (pa_cons (pv 0) pa_nil)))) (pw_or1 (pt_cmpR op_gt (pe_callB (k_len K rfl) (by rfl) T.n_len (by decide +kernel) (pa_cons (pv 0) pa_nil)) (pe_glob (v := .int 8) rfl T.m_MOST_WEIGHTS ⟨_, rfl⟩) (nomark _)))))
    (pss_one (ps_raise rfl (takes_of rfl rfl rfl rfl) (pmk_oex T.er_InvalidWeights.sup.T T.er_InvalidWeights.ini T.er_InvalidWeights.ity (G_InvalidWeights___init__ (P := P) (CX := CX0) T) (hr.mono (by decide)) T.er_InvalidWeights.bnd .nil pass0 (by rfl) T.gc_InvalidWeights (pa_cons (pv 0) pa_nil))))
    pss_nil)
  (pss_one (ps_if (pt_cmpR (k_neD K rfl hr.units) (pe_lc (own := [("weight", 1)]) (g := gName 1) (by rfl) sc_check_rule.nd (k_piL K rfl (pv 0)) (blkOk_by (own := [("weight", 1)]) (N := N_check_rule) (sc := defScope s_check_rule) (by decide +kernel)) (fun _ _ _ _ _ => (pg_name (i := 1) sc_check_rule.nd rfl (by first | exact Or.inl rfl | exact Or.inr rfl))) (fun _ _ _ _ _ => (pts_one (pt_cmpR op_gt (pe_callB call_abs (by rfl) T.n_abs (by decide +kernel) (pa_cons (pv 1) pa_nil)) (pe_glob (v := .int 32768) rfl T.m_MOST_WEIGHT ⟨_, rfl⟩) (nomark _)))) (fun _ _ _ _ _ => (pv 1))) (pe_lst pa_nil) (nomark _))
    (pss_one (ps_raise rfl (takes_of rfl rfl rfl rfl) (pmk_oex T.er_InvalidWeights.sup.T T.er_InvalidWeights.ini T.er_InvalidWeights.ity (G_InvalidWeights___init__ (P := P) (CX := CX0) T) (hr.mono (by decide)) T.er_InvalidWeights.bnd .nil pass0 (by rfl) T.gc_InvalidWeights (pa_cons (pv 0) pa_nil))))
    pss_nil))), ?_⟩
  rcases h with ⟨a, ws, rfl, ha, ⟨g1, g2⟩, q⟩ | ⟨hv | ⟨a, xs, rfl, ha, hz, hs, hb⟩, q⟩
  · refine ⟨_, rfl, _, rfl, .inr ⟨a, _, rfl, ha, by rw [List.length_map]; omega, simple_ints ws, fun H1 s1 => ?_⟩⟩
    rw [all_ints]
    refine ⟨_, rfl, iteF ?_⟩
    refine ⟨_, rfl, a, _, rfl, .inl (.inl (.inl (s1 _ _ ha))), _, _, rfl, rfl, _, rfl, iteDF (by rw [List.length_map]; omega) ?_⟩
    refine ⟨_, rfl, a, rfl, ⟨_, .inl (.inl (s1 _ _ ha))⟩, fun D nD => ?_⟩
    refine lc_selL (K := K) (xs := ws.map V.int) (ws.map fun _ => none) nD (.inl (.inl (s1 _ _ ha))) (by rw [List.length_map, List.length_map]) (by rw [List.length_map]; exact small4 (by omega)) (fun x => rfl) ?_ ?_
    · intro i x o H' hx ho s Qt qt
      obtain ⟨w, hw, rfl⟩ := int_at hx
      rw [List.getElem?_map, hw] at ho
      cases ho
      have := g2 w (List.mem_of_getElem? hw)
      refine ⟨_, rfl, _, rfl, _, _, rfl, rfl, _, rfl, iteDF ?_ (qt _ (Same.refl _))⟩
      split <;> omega
    · intro H2 s2 hD
      rw [fm_noneN] at hD
      refine ⟨Nat.zero_le _, fun p np => ?_⟩
      refine ne_lst (ns := []) (.inl (.inl (same_upd np _ _ hD))) (.inl (.inl upd_same)) ⟨_, rfl, iteF ?_⟩
      exact q _ ((s1.trans s2).trans (same_upd np))
  · refine ⟨_, rfl, v, rfl, .inl ⟨hv, ⟨_, rfl, iteT ?_⟩⟩⟩
    exact iteT ⟨_, rfl, mk_sup fun d nd => q _ d (Same.refl _) nd⟩
  · refine ⟨_, rfl, _, rfl, .inr ⟨a, xs, rfl, ha, hz, hs, fun H1 s1 => ?_⟩⟩
    rcases hb with hb | ⟨ws, rfl, hb⟩
    · rw [hb]
      refine ⟨_, rfl, iteT ?_⟩
      exact iteT ⟨_, rfl, mk_sup fun d nd => q _ d s1 nd⟩
    · rw [all_ints]
      rw [List.length_map] at hz
      refine ⟨_, rfl, iteF ?_⟩
      refine ⟨_, rfl, a, _, rfl, .inl (.inl (.inl (s1 _ _ ha))), _, _, rfl, rfl, _, rfl, ?_⟩
      by_cases h8 : 8 < ws.length
      · refine iteDT (by rw [List.length_map]; omega) ?_
        exact ⟨_, rfl, mk_sup fun d nd => q _ d s1 nd⟩
      · refine iteDF (by rw [List.length_map]; omega) ?_
        obtain ⟨w0, hw0, hbig⟩ := hb.resolve_left h8
        refine ⟨_, rfl, a, rfl, ⟨_, .inl (.inl (s1 _ _ ha))⟩, fun D nD => ?_⟩
        refine lc_selL (K := K) (xs := ws.map V.int) (ws.map fun w => if decide (32768 < w.natAbs) = true then some (V.int w) else none) nD (.inl (.inl (s1 _ _ ha))) (by rw [List.length_map, List.length_map]) (by rw [List.length_map]; exact small4 (by omega)) (fun x => rfl) ?_ ?_
        · intro i x o H' hx ho s Qt qt
          obtain ⟨w, hw, rfl⟩ := int_at hx
          rw [List.getElem?_map, hw] at ho
          cases ho
          dsimp only at qt
          refine ⟨_, rfl, _, rfl, _, _, rfl, rfl, _, rfl, ?_⟩
          by_cases c : 32768 < w.natAbs
          · rw [if_pos (decide_eq_true c)] at qt
            refine iteDT ?_ ⟨_, rfl, qt _ (Same.refl _)⟩
            split <;> omega
          · rw [if_neg (by rw [decide_eq_false c]; decide)] at qt
            refine iteDF ?_ (qt _ (Same.refl _))
            split <;> omega
        · intro H2 s2 hD
          have ef : (ws.map fun w => if decide (32768 < w.natAbs) = true then some (V.int w) else none).filterMap id = (ws.filter fun w => decide (32768 < w.natAbs)).map V.int := by
            clear hD hw0 hbig hb ha hs h8 hz
            induction ws with
            | nil => rfl
            | cons x r ih =>
              rw [List.map_cons, List.filterMap_cons, List.filter_cons]
              by_cases c : decide (32768 < x.natAbs) = true
              · rw [if_pos c, if_pos c, List.map_cons, ← ih]; rfl
              · rw [if_neg c, if_neg c, ← ih]; rfl
          rw [ef] at hD
          refine ⟨Nat.zero_le _, fun p np => ?_⟩
          refine neD_lst (ns := ws.filter fun w => decide (32768 < w.natAbs)) (ms := []) (.inl (.inl (same_upd np _ _ hD))) (.inl (.inl upd_same)) ⟨_, rfl, ?_⟩
          rw [decide_eq_false (fun e => by
            have : w0 ∈ ws.filter fun w => decide (32768 < w.natAbs) := List.mem_filter.mpr ⟨hw0, decide_eq_true hbig⟩
            rw [e] at this
            cases this)]
          exact iteT ⟨_, rfl, mk_sup fun d nd => q _ d ((s1.trans s2).trans (same_upd np)) nd⟩
end
end My

namespace My
/-! ### products of rules -/
theorem sumN_split (s n : Nat) (f : Nat → Int) : sumN (s + n) f = sumN s f + sumN n fun i => f (s + i) := by
  induction n with
  | zero => simp [sumN]
  | succ n ih => rw [← Nat.add_assoc, sumN, ih, sumN]; omega
theorem sumN_shift {L s b : Nat} (h : s + b ≤ L) (g : Nat → Int) : sumN L (fun k => if s ≤ k ∧ k - s < b then g (k - s) else 0) = sumN b g := by
  obtain ⟨n, rfl⟩ := Nat.le.dest (show s ≤ L by omega)
  rw [sumN_split, sumN_none fun k hk => if_neg (by omega), Int.zero_add, sumN_cut (k := b) (by omega) fun i h1 _ => if_neg (by omega)]
  refine sumN_congr fun i hi => ?_
  rw [if_pos (by omega), show s + i - s = i by omega]
/-- the product's powers, spots below i done, places below j of the i-th -/
def cvF (A B : List Int) (i j : Nat) (k : Nat) : Int := (sumN i fun s => if s ≤ k ∧ k - s < B.length then A.getD s 0 * B.getD (k - s) 0 else 0) + if i ≤ k ∧ k - i < j then A.getD i 0 * B.getD (k - i) 0 else 0
theorem cvF_nil (A B : List Int) (k : Nat) : cvF A B 0 0 k = 0 := by
  unfold cvF
  rw [if_neg (by omega)]
  rfl
theorem cvF_step (A B : List Int) (i j k : Nat) : cvF A B i (j + 1) k = if k = i + j then cvF A B i j k + A.getD i 0 * B.getD j 0 else cvF A B i j k := by
  unfold cvF
  by_cases c : k = i + j
  · rw [if_pos c, if_pos (by omega), if_neg (by omega), show k - i = j by omega]
    omega
  · rw [if_neg c]
    congr 1
    by_cases c2 : i ≤ k ∧ k - i < j
    · rw [if_pos c2, if_pos (by omega)]
    · rw [if_neg c2, if_neg (by omega)]
theorem cvF_next (A B : List Int) (i k : Nat) : cvF A B i B.length k = cvF A B (i + 1) 0 k := by
  unfold cvF
  rw [if_neg (show ¬ (i + 1 ≤ k ∧ k - (i + 1) < 0) by omega), sumN, Int.add_zero]
/-- the product -/
def prodF (A B : List Int) (k : Nat) : Int := cvF A B A.length 0 k
theorem prodF_eq (A B : List Int) (k : Nat) : prodF A B k = sumN A.length fun s => if s ≤ k ∧ k - s < B.length then A.getD s 0 * B.getD (k - s) 0 else 0 := by
  unfold prodF cvF
  rw [if_neg (by omega), Int.add_zero]
theorem prodF_sum (A B : List Int) (hB : 0 < B.length) (r : Nat → Int) (i : Nat) : (sumN (A.length + B.length - 1) fun k => prodF A B k * r (i + k)) = sumN B.length fun t => B.getD t 0 * sumN A.length fun s => A.getD s 0 * r (i + t + s) := by
  have e1 : (sumN (A.length + B.length - 1) fun k => prodF A B k * r (i + k)) = sumN (A.length + B.length - 1) fun k => sumN A.length fun s => if s ≤ k ∧ k - s < B.length then A.getD s 0 * B.getD (k - s) 0 * r (i + s + (k - s)) else 0 := by
    refine sumN_congr fun k _ => ?_
    rw [prodF_eq, Int.mul_comm, ← sumN_mul]
    refine sumN_congr fun s _ => ?_
    by_cases c : s ≤ k ∧ k - s < B.length
    · rw [if_pos c, if_pos c, Int.mul_comm, show i + s + (k - s) = i + k by omega]
    · rw [if_neg c, if_neg c, Int.mul_zero]
  rw [e1, sumN_swap]
  have e2 : (sumN A.length fun s => sumN (A.length + B.length - 1) fun k => if s ≤ k ∧ k - s < B.length then A.getD s 0 * B.getD (k - s) 0 * r (i + s + (k - s)) else 0) = sumN A.length fun s => sumN B.length fun t => A.getD s 0 * B.getD t 0 * r (i + s + t) := by
    refine sumN_congr fun s hs => ?_
    exact sumN_shift (g := fun t => A.getD s 0 * B.getD t 0 * r (i + s + t)) (by omega)
  rw [e2, sumN_swap]
  refine sumN_congr fun t _ => ?_
  rw [← sumN_mul]
  refine sumN_congr fun s _ => ?_
  rw [Int.mul_comm (A.getD s 0), Int.mul_assoc, show i + s + t = i + t + s by omega]
/-- as a rule again -/
def prodL (A B : List Int) : List Int := (((List.range (A.length + B.length - 2)).map fun k => -prodF A B k)).reverse
theorem prodL_len (A B : List Int) : (prodL A B).length = A.length + B.length - 2 := by unfold prodL; rw [List.length_reverse, List.length_map, List.length_range]
theorem asP_last (u : List Int) : (asP u).getD u.length 0 = 1 := by
  unfold asP
  rw [List.getD_eq_getElem?_getD, List.getElem?_append_right (by rw [List.length_map, List.length_reverse]; exact Nat.le_refl _), List.length_map, List.length_reverse, Nat.sub_self]
  rfl
theorem prod_tell (w u : List Int) (r : Nat → Int) (i : Nat) : (sumN (asP (prodL (asP w) (asP u))).length fun p => (asP (prodL (asP w) (asP u))).getD p 0 * r (i + p)) = sumN (asP u).length fun t => (asP u).getD t 0 * sumN (asP w).length fun s => (asP w).getD s 0 * r (i + t + s) := by
  rw [← prodF_sum (asP w) (asP u) (by rw [asP_len]; omega), asP_len, prodL_len, asP_len, asP_len]
  rw [show w.length + 1 + (u.length + 1) - 2 + 1 = w.length + 1 + (u.length + 1) - 1 by omega]
  refine sumN_congr fun k hk => ?_
  congr 1
  by_cases c : k = w.length + u.length
  · have e : (asP (prodL (asP w) (asP u))).getD k 0 = 1 := by
      have := asP_last (prodL (asP w) (asP u))
      rw [prodL_len, asP_len, asP_len] at this
      rw [c, ← this]
      congr 1
      omega
    rw [e, prodF_eq, asP_len, sumN_only (k := w.length) (Nat.lt_succ_self _) fun s hs ne => by rw [if_neg (by rw [asP_len]; omega)], if_pos (by rw [asP_len]; omega), asP_last, show k - w.length = u.length by omega, asP_last]
    rfl
  · have hk2 : k < w.length + 1 + (u.length + 1) - 2 := by omega
    unfold asP
    rw [List.getD_eq_getElem?_getD, List.getElem?_append_left (by rw [List.length_map, List.length_reverse, prodL_len]; simp; omega), List.getElem?_map]
    unfold prodL
    rw [List.reverse_reverse, List.getElem?_map, List.getElem?_range (by simp; omega)]
    show - -(_ : Int) = _
    rw [Int.neg_neg]
theorem fol_prod {N : Int} {w u : List Int} {r : Nat → Int} (h : Fol N w r) (i : Nat) : N ∣ sumN (asP (prodL (asP w) (asP u))).length fun p => (asP (prodL (asP w) (asP u))).getD p 0 * r (i + p) := by
  rw [prod_tell]
  exact sumN_dvd fun t _ => Int.dvd_mul_of_dvd_right (fol_asP.mp h (i + t))
theorem sumN_abs {n : Nat} {f : Nat → Int} {c : Nat} (h : ∀ i, i < n → (f i).natAbs ≤ c) : (sumN n f).natAbs ≤ n * c := by
  induction n with
  | zero => simp [sumN]
  | succ n ih =>
    rw [sumN]
    have h1 := ih fun i hi => h i (by omega)
    have h2 := h n (Nat.lt_succ_self n)
    have h3 := Int.natAbs_add_le (sumN n f) (f n)
    rw [Nat.succ_mul]
    omega
theorem small_getD {A : List Int} {c : Nat} (h : ∀ x ∈ A, x.natAbs ≤ c) (i : Nat) : (A.getD i 0).natAbs ≤ c := by
  rw [List.getD_eq_getElem?_getD]
  by_cases hi : i < A.length
  · rw [List.getElem?_eq_getElem hi]
    exact h _ (List.getElem_mem hi)
  · rw [List.getElem?_eq_none (by omega)]
    exact Nat.zero_le _
theorem asP_small {u : List Int} {c : Nat} (hc : 1 ≤ c) (h : ∀ x ∈ u, x.natAbs ≤ c) : ∀ x ∈ asP u, x.natAbs ≤ c := by
  intro x hx
  unfold asP at hx
  rcases List.mem_append.mp hx with hx | hx
  · obtain ⟨y, hy, rfl⟩ := List.mem_map.mp hx
    rw [Int.natAbs_neg]
    exact h y (List.mem_reverse.mp hy)
  · rw [List.mem_singleton.mp hx]
    exact hc
theorem cvF_small {A B : List Int} (hA : ∀ x ∈ A, x.natAbs ≤ 3) (hB : ∀ x ∈ B, x.natAbs ≤ 3) {i j k : Nat} (hi : i ≤ 8) : (cvF A B i j k).natAbs ≤ 100 := by
  have one : ∀ s t, (A.getD s 0 * B.getD t 0).natAbs ≤ 9 := fun s t => by
    rw [Int.natAbs_mul]
    exact Nat.mul_le_mul (small_getD hA s) (small_getD hB t)
  unfold cvF
  have h1 : (sumN i fun s => if s ≤ k ∧ k - s < B.length then A.getD s 0 * B.getD (k - s) 0 else 0).natAbs ≤ i * 9 := sumN_abs fun s _ => by
    split
    · exact one _ _
    · exact Nat.zero_le _
  have h2 : (if i ≤ k ∧ k - i < j then A.getD i 0 * B.getD (k - i) 0 else 0).natAbs ≤ 9 := by
    split
    · exact one _ _
    · exact Nat.zero_le _
  have h3 := Int.natAbs_add_le (sumN i fun s => if s ≤ k ∧ k - s < B.length then A.getD s 0 * B.getD (k - s) 0 else 0) (if i ≤ k ∧ k - i < j then A.getD i 0 * B.getD (k - i) 0 else 0)
  omega
theorem prodL_small {A B : List Int} (hA : ∀ x ∈ A, x.natAbs ≤ 3) (hB : ∀ x ∈ B, x.natAbs ≤ 3) (h : A.length ≤ 8) : ∀ x ∈ prodL A B, x.natAbs ≤ 100 := by
  intro x hx
  unfold prodL at hx
  obtain ⟨k, _, rfl⟩ := List.mem_map.mp (List.mem_reverse.mp hx)
  rw [Int.natAbs_neg]
  exact cvF_small hA hB h
end My

namespace My
open PySem PySem.Spec PyProof.Rows L2 Pre
/-! ### powers led back by a rule, in a program -/
/-- a row of whole numbers told by a function -/
def rowZ (n : Nat) (f : Nat → Int) : List V := (List.range n).map fun p => V.int (f p)
theorem rowZ_len (n : Nat) (f : Nat → Int) : (rowZ n f).length = n := by unfold rowZ; rw [List.length_map, List.length_range]
theorem rowZ_get {n : Nat} (f : Nat → Int) {i : Nat} (h : i < n) : (rowZ n f)[i]? = some (.int (f i)) := by
  unfold rowZ
  rw [List.getElem?_map, List.getElem?_range h]
  rfl
theorem rowZ_ext {n : Nat} {f : Nat → Int} {xs : List V} (hl : xs.length = n) (h : ∀ i, i < n → xs[i]? = some (.int (f i))) : xs = rowZ n f := by
  refine List.ext_getElem? fun i => ?_
  by_cases hi : i < n
  · rw [h i hi, rowZ_get f hi]
  · rw [List.getElem?_eq_none (by omega), List.getElem?_eq_none (by rw [rowZ_len]; omega)]
theorem rowZ_congr {n : Nat} {f g : Nat → Int} (e : ∀ i, i < n → f i = g i) : rowZ n f = rowZ n g := rowZ_ext (rowZ_len n f) fun i hi => by rw [rowZ_get f hi, e i hi]
theorem rowZ_ints (n : Nat) (f : Nat → Int) : rowZ n f = ((List.range n).map f).map V.int := by
  unfold rowZ
  rw [List.map_map]
  rfl
theorem ints_rowZ (ws : List Int) : ws.map V.int = rowZ ws.length fun p => ws.getD p 0 := rowZ_ext (List.length_map _) fun i hi => by
  rw [List.getElem?_map, List.getD_eq_getElem?_getD, List.getElem?_eq_getElem hi]
  rfl
theorem rowZ_set {n s : Nat} {v : Int} {f g : Nat → Int} (hs : s < n) (e1 : g s = v) (e2 : ∀ i, i ≠ s → f i = g i) : (rowZ n f).set s (.int v) = rowZ n g := by
  refine rowZ_ext (by rw [List.length_set, rowZ_len]) fun i hi => ?_
  rw [List.getElem?_set]
  by_cases c : s = i
  · subst c
    rw [if_pos rfl, if_pos (by rw [rowZ_len]; exact hs), e1]
  · rw [if_neg c, rowZ_get f hi, e2 i fun h => c h.symm]
theorem rowZ_take {n k : Nat} (h : k ≤ n) (f : Nat → Int) : (rowZ n f).take k = rowZ k f := rowZ_ext (by rw [List.length_take, rowZ_len]; omega) fun i hi => by rw [List.getElem?_take, if_pos hi, rowZ_get f (by omega)]
theorem rep_int (k : Nat) (x : Int) : (List.replicate k [V.int x]).flatten = (List.replicate k x).map V.int := by
  induction k with
  | zero => rfl
  | succ k ih => rw [List.replicate_succ, List.flatten_cons, ih, List.replicate_succ]; rfl
/-- powers padded -/
theorem pad_row (N : Int) (w q : List Int) : (q.map fun x => V.int (x % N)) ++ (List.replicate (w.length - q.length) (0 : Int)).map V.int = rowZ (lenP w q) (iniP N q) := by
  refine rowZ_ext (by rw [List.length_append, List.length_map, List.length_map, List.length_replicate]; unfold lenP; omega) fun i hi => ?_
  unfold iniP
  by_cases c : i < q.length
  · rw [List.getElem?_append_left (by rw [List.length_map]; exact c), List.getElem?_map, List.getD_eq_getElem?_getD, List.getElem?_eq_getElem c]
    rfl
  · rw [List.getElem?_append_right (by rw [List.length_map]; omega), List.length_map, List.getElem?_map, List.getElem?_replicate, if_pos (by unfold lenP at hi; omega), List.getD_eq_getElem?_getD, List.getElem?_eq_none (l := q) (by omega)]
    show some (V.int 0) = some (V.int ((0 : Int) % N))
    rw [Int.zero_emod]
theorem updW_step {N : Int} {w : List Int} {f : Nat → Int} {top k : Nat} (h : k < w.length) (ht : w.length ≤ top) (p : Nat) : updW N w f top (k + 1) p = if p = top - 1 - k then (updW N w f top k p + f top * w.getD k 0) % N else updW N w f top k p := by
  unfold updW
  by_cases e : p = top - 1 - k
  · rw [if_pos e, if_pos ⟨by omega, by omega⟩, if_neg (by omega), show top - 1 - p = k by omega]
  · rw [if_neg e]
    by_cases c : p < top ∧ top - 1 - p < k
    · rw [if_pos ⟨c.1, by omega⟩, if_pos c]
    · rw [if_neg (by omega), if_neg c]
theorem updW_top {N : Int} {w : List Int} {f : Nat → Int} {top k : Nat} : updW N w f top k top = f top := by
  unfold updW
  rw [if_neg (by omega)]
theorem updW_nil {N : Int} {w : List Int} {f : Nat → Int} {top : Nat} (p : Nat) : updW N w f top 0 p = f p := by
  unfold updW
  rw [if_neg (by omega)]
theorem pow_le_pow2 {d : Nat} (h : d ≤ 24) : (2 : Int) ^ d ≤ 2 ^ 24 := by
  have := Nat.pow_le_pow_right (show 0 < 2 by decide) h
  have e : (((2 ^ d : Nat)) : Int) ≤ ((2 ^ 24 : Nat) : Int) := Int.ofNat_le.mpr this
  rw [Int.natCast_pow, Int.natCast_pow] at e
  exact e
local macro_rules | `(tactic| walk_at "go") => `(tactic| repeat (first | (with_reducible first | refine iteT ?_ | refine iteF ?_ | refine iteNtt ?_ | refine iteNff ?_ | refine iteET (by omega) ?_ | refine iteEF (by omega) ?_ | refine iteENT (by omega) ?_ | refine iteENF (by omega) ?_ | refine iteDT (by omega) ?_ | refine iteDF (by omega) ?_ | refine iteNT (by omega) ?_ | refine iteNF (by omega) ?_) | refine ⟨_, rfl, ?_⟩ | refine ⟨_, _, rfl, rfl, ?_⟩ | refine ⟨_, _, rfl, ?_⟩ | refine ⟨rfl, ?_⟩ | refine .inl ⟨_, rfl, ?_⟩ | refine .inr ⟨_, rfl, ?_⟩))
local macro_rules | `(tactic| walk_at "b") => `(tactic| try dsimp (config := { proj := false, iota := false, eta := false, zeta := false }) only)
section
variable {P : Program} {w : World} {K : PySem.W.Frag} {mg : Str → Option Value} {base : Heap} [pf : Sup.PF P fileS]
def sp_reduced (K : PySem.W.Frag) : Sp := fun vs H Q _ => ∃ (a b : Addr) (ws q : List Int) (N : Int), vs = [.ref a, .ref b, .int N] ∧ H a = some (.lst (ws.map V.int)) ∧ H b = some (.lst (q.map V.int)) ∧ GoodR ws ∧ q.length ≤ 20 ∧ 0 < N ∧ N ≤ 2 ^ 24 ∧ ∀ H' p, Same H H' → H p = none → H' p = some (.lst (rowZ ws.length (redP N ws q))) → Q (.ref p) H'
theorem G_reduced (T : Top K mg) : FnOk P w K mg base CX0 1 T.f_reduced T.fd_reduced ["weights", "powers", "size"] (sp_reduced K) := by
  refine T.F_reduced.ok sc_reduced (fun vs H Q E h => by obtain ⟨a, b, ws, qs, N, rfl, _⟩ := h; rfl) (fun cdv A outer s H vs Q E hr h => ?_)
  obtain ⟨a, b, ws, qs, N, rfl, ha, hb, ⟨g1, g2⟩, hq, hN, hN2, q⟩ := h
  refine ⟨_, PSs.nox (pss_cons (ps_set (i := 3) sc_reduced.nd rfl (by first | exact Or.inl rfl | exact Or.inr rfl) (pe_callB (k_len K rfl) (by rfl) T.n_len (by decide +kernel) (pa_cons (pv 0) pa_nil)))
  (pss_cons (ps_set (i := 4) sc_reduced.nd rfl (by first | exact Or.inl rfl | exact Or.inr rfl) (pe_op op_cat (pe_lc (own := [("number", 9)]) (g := gName 9) (tt := tYes) (by rfl) sc_reduced.nd (k_piL K rfl (pv 1)) (blkOk_by (own := [("number", 9)]) (N := N_reduced) (sc := defScope s_reduced) (by decide +kernel)) (fun _ _ _ _ _ => (pg_name (i := 9) sc_reduced.nd rfl (by first | exact Or.inl rfl | exact Or.inr rfl))) (fun _ _ _ _ _ => pts_nil) (fun _ _ _ _ _ => (pe_op op_mod (pv 9) (pv 2)))) (pe_op op_rep (pe_lst (pa_cons pe_int pa_nil)) (pe_op op_sub (pv 3) (pe_callB (k_len K rfl) (by rfl) T.n_len (by decide +kernel) (pa_cons (pv 1) pa_nil))))))
  (pss_cons (ps_for PassesOwn.never rfl (pi_range3 (by rfl) T.n_range (pa_cons (pe_op op_sub (pe_callB (k_len K rfl) (by rfl) T.n_len (by decide +kernel) (pa_cons (pv 4) pa_nil)) pe_int) (pa_cons (pe_op op_sub (pv 3) pe_int) (pa_cons (pe_un un_neg pe_int) pa_nil)))) (pg_name (i := 5) sc_reduced.nd rfl (by first | exact Or.inl rfl | exact Or.inr rfl))
    (pss_cons (ps_set (i := 6) sc_reduced.nd rfl (by first | exact Or.inl rfl | exact Or.inr rfl) (pe_ix (k_ixL K rfl) (pv 4) (pv 5) (fun _ _ => rfl)))
  (pss_one (ps_for PassesOwn.never rfl (k_piE K rfl (by rfl) T.n_enumerate (pa_cons (pv 0) pa_nil)) (k_pgT K rfl (by rfl) (pgs_cons (pg_name (i := 7) sc_reduced.nd rfl (by first | exact Or.inl rfl | exact Or.inr rfl)) (pgs_cons (pg_name (i := 8) sc_reduced.nd rfl (by first | exact Or.inl rfl | exact Or.inr rfl)) pgs_nil)))
    (pss_one (ps_asg (pe_op op_mod (pe_op op_add (pe_ix (k_ixL K rfl) (pv 4) (pe_op op_sub (pe_op op_sub (pv 5) pe_int) (pv 7)) (fun _ _ => rfl)) (pe_op op_mul (pv 6) (pv 8))) (pv 2)) (pg_sub (pv 4) (pe_op op_sub (pe_op op_sub (pv 5) pe_int) (pv 7)) set_list)))))))
  (pss_one (ps_ret (pe_slice (k_slL K rfl) (pv 4) po_none (po_some (pv 3)))))))), ?_⟩
  refine ⟨_, rfl, a, _, rfl, .inl (.inl (.inl ha)), ?_⟩
  rw [List.length_map]
  refine ⟨_, rfl, b, rfl, ⟨_, .inl (.inl hb)⟩, fun D nD => ?_⟩
  refine lc_mapL (K := K) (xs := qs.map V.int) (qs.map fun x => V.int (x % N)) nD (.inl (.inl hb)) (by rw [List.length_map, List.length_map]) (by rw [List.length_map]; exact small4 (by omega)) (fun x => rfl) ?_ ?_
  · intro i x y H' hx hy s Qt qt
    obtain ⟨n, hn, rfl⟩ := int_at hx
    rw [List.getElem?_map, hn] at hy
    cases hy
    exact ⟨_, rfl, _, rfl, _, _, rfl, rfl, hN, qt _ (Same.refl _)⟩
  · intro H1 s1 hD
    refine ⟨(by show 1 ≤ sizeLine; decide), fun p1 np1 => ?_⟩
    obtain ⟨H2, e2, s2, hp1⟩ := fresh (.lst [V.int 0]) np1
    rw [e2]
    refine ⟨_, rfl, _, rfl, b, _, rfl, .inl (.inl (.inl (s2 _ _ (s1 _ _ hb)))), _, _, rfl, rfl, ?_⟩
    dsimp only
    rw [List.length_map]
    refine ⟨p1, _, _, rfl, rfl, hp1, by omega, by omega, by rw [sizeLine_eq]; show 1 * _ ≤ _; omega, fun p2 np2 => ?_⟩
    rw [show (((ws.length : Nat) : Int) - ((qs.length : Nat) : Int)).toNat = ws.length - qs.length by omega, rep_int]
    obtain ⟨H3, e3, s3, hp2⟩ := fresh (.lst ((List.replicate (ws.length - qs.length) (0 : Int)).map V.int)) np2
    rw [e3]
    refine ⟨D, p2, _, _, rfl, rfl, s3 _ _ (s2 _ _ hD), hp2, by rw [List.length_map, List.length_map, List.length_replicate, sizeLine_eq]; omega, fun p3 np3 => ?_⟩
    rw [pad_row]
    have hL : lenP ws qs ≤ 20 := by unfold lenP; omega
    have hLw : ws.length ≤ lenP ws qs := by unfold lenP; omega
    obtain ⟨H4, e4, s4, hp3⟩ := fresh (.lst (rowZ (lenP ws qs) (iniP N qs))) np3
    rw [e4]
    have s04 := ((s1.trans s2).trans s3).trans s4
    have np3H : H p3 = none := ((s1.trans s2).trans s3).free np3
    have ha4 := s04 _ _ ha
    refine ⟨_, rfl, p3, _, rfl, .inl (.inl (.inl hp3)), _, _, rfl, rfl, _, rfl, _, _, rfl, rfl, _, rfl, ?_⟩
    refine ⟨_, _, _, _, rfl, RgC.neg (by rw [rowZ_len]; omega) (by rw [rowZ_len]; omega) (by omega) (by omega), ?_⟩
    walk_at "b"
    rw [rowZ_len, show (((lenP ws qs : Nat) : Int) - 1 - (((ws.length : Nat) : Int) - 1)).toNat = lenP ws qs - ws.length by omega]
    refine for_rangeC (lo := ((lenP ws qs : Nat) : Int) - 1) (c := -1) (n := lenP ws qs - ws.length) (fun t σ H5 => ∃ v5 v6 v7 v8 : Option V, σ = [some (.ref a), some (.ref b), some (.int N), some (.int (ws.length : Nat)), some (.ref p3), v5, v6, v7, v8, none] ∧ Same H H5 ∧ H5 p3 = some (.lst (rowZ (lenP ws qs) (ledN N ws (iniP N qs) (lenP ws qs) t)))) ⟨none, none, none, none, rfl, s04, hp3⟩ ?_ ?_
    · rintro t σ H5 ht ⟨v5, v6, v7, v8, rfl, s5, hp5⟩
      rw [show (((lenP ws qs : Nat) : Int) - 1 + (t : Nat) * (-1)) = ((lenP ws qs - 1 - t : Nat) : Int) by omega]
      have hled : ledN N ws (iniP N qs) (lenP ws qs) (t + 1) = updW N ws (ledN N ws (iniP N qs) (lenP ws qs) t) (lenP ws qs - 1 - t) ws.length := rfl
      rw [hled]
      have htop : ws.length ≤ lenP ws qs - 1 - t := by omega
      have htl : lenP ws qs - 1 - t < lenP ws qs := by omega
      generalize ledN N ws (iniP N qs) (lenP ws qs) t = f at *
      generalize lenP ws qs - 1 - t = top at *
      generalize lenP ws qs = L at *
      refine ⟨_, rfl, _, rfl, p3, _, _, _, rfl, rfl, .inl (.inl hp5), atI_nat (rowZ_get f htl), ?_⟩
      refine ⟨_, rfl, a, _, rfl, .inl (.inl (s5 _ _ ha)), ?_⟩
      refine for_it (walk_enum (K := K) (a := a) (xs := ws.map V.int)) (fun k σ H6 => ∃ v7 v8 : Option V, σ = [some (.ref a), some (.ref b), some (.int N), some (.int (ws.length : Nat)), some (.ref p3), some (.int (top : Nat)), some (.int (f top)), v7, v8, none] ∧ Same H H6 ∧ H6 p3 = some (.lst (rowZ L (updW N ws f top k)))) ⟨v7, v8, rfl, s5, by rw [hp5, rowZ_congr fun i _ => (updW_nil i).symm]⟩ (fun k σ H6 _ ⟨_, _, _, s6, _⟩ => .inl (.inl (s6 _ _ ha))) ?_ ?_
      · rintro k x σ H6 H7 hk ⟨v7, v8, rfl, s6, hp6⟩ ⟨T1, x1, y1, rfl, nT, rfl, ex, ey⟩
        dsimp only at ex ey
        cases ex
        obtain ⟨wk, hwk, rfl⟩ := int_at ey
        have hk' : k < ws.length := by rw [List.length_map] at hk; exact hk
        have ewk : ws.getD k 0 = wk := by rw [List.getD_eq_getElem?_getD, hwk]; rfl
        refine ⟨T1, _, rfl, .inl (.inl upd_same), rfl, _, _, rfl, _, _, rfl, rfl, ?_⟩
        have sT := same_upd (o := .tup [V.int (k : Int), V.int wk]) nT
        have hp7 := sT _ _ hp6
        generalize upd H6 T1 (.tup [V.int (k : Int), V.int wk]) = H7 at *
        have eix : ((top : Int) - 1 - (k : Int)) = ((top - 1 - k : Nat) : Int) := by omega
        have hix : top - 1 - k < L := by omega
        have hw := g2 wk (List.mem_of_getElem? hwk)
        refine ⟨_, rfl, _, rfl, _, _, rfl, rfl, _, rfl, _, _, rfl, rfl, p3, _, _, _, rfl, rfl, .inl (.inl hp7), by rw [eix]; exact atI_nat (rowZ_get _ hix), ?_⟩
        refine ⟨_, rfl, _, rfl, _, _, rfl, rfl, .inr ⟨by omega, by omega⟩, _, _, rfl, rfl, _, rfl, _, _, rfl, rfl, hN, ?_⟩
        refine ⟨_, rfl, _, rfl, _, _, rfl, rfl, _, rfl, _, _, rfl, rfl, p3, _, _, top - 1 - k, rfl, rfl, hp7, ?_, ?_⟩
        · rw [eix]
          unfold ixN
          rw [if_pos (by omega), if_pos (by rw [rowZ_len]; omega)]
          rfl
        · refine ⟨_, _, rfl, same_over np3H (s6.trans sT), ?_⟩
          rw [upd_same]
          dsimp only
          rw [rowZ_set (g := updW N ws f top (k + 1)) hix (by rw [updW_step hk' htop, if_pos rfl, ewk]) fun i hi => by rw [updW_step hk' htop, if_neg hi]]
      · rintro σ H6 ⟨v7, v8, rfl, s6, hp6⟩
        rw [List.length_map] at hp6
        exact ⟨_, _, _, _, rfl, s6, hp6⟩
    · rintro σ H5 ⟨v5, v6, v7, v8, rfl, s5, hp5⟩
      refine ⟨_, rfl, _, rfl, _, rfl, p3, _, rfl, .inl (.inl hp5), fun p np => ?_⟩
      refine q _ p (s5.trans (same_upd np)) (s5.free np) ?_
      rw [upd_same, cut_take, rowZ_take hLw]
      rfl
end
end My

namespace My
open PySem PySem.Spec PyProof.Rows L2 Pre
/-! ### rows moved by a number of places: plain -/
/-- powers that tell, of every row that follows a rule, its number n places on -/
def Mv (N : Int) (ws : List Int) (f : Nat → Int) (n : Nat) : Prop := ∀ r : Nat → Int, Fol N ws r → ∀ i, N ∣ (sumN ws.length fun p => f p * r (i + p)) - r (i + n)
theorem mv_red {N : Int} {ws q : List Int} {n : Nat} (hN : 0 < N) (h : ∀ r : Nat → Int, Fol N ws r → ∀ i, N ∣ (sumN q.length fun p => q.getD p 0 * r (i + p)) - r (i + n)) : Mv N ws (redP N ws q) n := fun r hr i => by
  have h1 := red_sum hN hr q i
  have h2 := h r hr i
  have := Int.dvd_add h1 h2
  rwa [show ∀ a b c : Int, a - b + (b - c) = a - c from fun a b c => by omega] at this
theorem mv_one {N : Int} {ws : List Int} (hN : 0 < N) : Mv N ws (redP N ws [1]) 0 := mv_red hN fun r _ i => by
  have e : (sumN ([1] : List Int).length fun p => ([1] : List Int).getD p 0 * r (i + p)) = r (i + 0) := by simp [sumN]
  rw [e, Int.sub_self]
  exact Int.dvd_zero N
theorem mv_two {N : Int} {ws : List Int} (hN : 0 < N) : Mv N ws (redP N ws [0, 1]) 1 := mv_red hN fun r _ i => by
  have e : (sumN ([0, 1] : List Int).length fun p => ([0, 1] : List Int).getD p 0 * r (i + p)) = r (i + 1) := by simp [sumN]
  rw [e, Int.sub_self]
  exact Int.dvd_zero N
theorem mv_nil {N : Int} {f : Nat → Int} {n : Nat} : Mv N [] f n := fun r hr i => by
  have h := hr (i + n)
  have e1 : (sumN ([] : List Int).length fun b => ([] : List Int).getD b 0 * r (i + n + ([] : List Int).length - 1 - b)) = 0 := rfl
  have e2 : (sumN ([] : List Int).length fun p => f p * r (i + p)) = 0 := rfl
  rw [e1, Int.sub_zero] at h
  rw [e2, Int.zero_sub]
  exact Int.dvd_neg.mpr h
/-- the product of two -/
def mulL (A B : List Int) : List Int := (List.range (A.length + B.length - 1)).map (prodF A B)
theorem mulL_len (A B : List Int) : (mulL A B).length = A.length + B.length - 1 := by unfold mulL; rw [List.length_map, List.length_range]
theorem mulL_get {A B : List Int} {k : Nat} (h : k < A.length + B.length - 1) : (mulL A B).getD k 0 = prodF A B k := by
  unfold mulL
  rw [List.getD_eq_getElem?_getD, List.getElem?_map, List.getElem?_range h]
  rfl
theorem row_getD {m i : Nat} (h : i < m) (f : Nat → Int) : (((List.range m).map f).getD i 0) = f i := by
  rw [List.getD_eq_getElem?_getD, List.getElem?_map, List.getElem?_range h]
  rfl
theorem mv_mul {N : Int} {ws : List Int} {f g : Nat → Int} {n m : Nat} (hN : 0 < N) (hf : Mv N ws f n) (hg : Mv N ws g m) : Mv N ws (redP N ws (mulL ((List.range ws.length).map f) ((List.range ws.length).map g))) (n + m) := by
  by_cases h0 : ws.length = 0
  · obtain rfl := List.length_eq_zero_iff.mp h0
    exact mv_nil
  refine mv_red hN fun r hr i => ?_
  have lf : ((List.range ws.length).map f).length = ws.length := by rw [List.length_map, List.length_range]
  have lg : ((List.range ws.length).map g).length = ws.length := by rw [List.length_map, List.length_range]
  rw [mulL_len, sumN_congr (g := fun k => prodF ((List.range ws.length).map f) ((List.range ws.length).map g) k * r (i + k)) fun k hk => by rw [mulL_get hk], prodF_sum _ _ (by omega), lf, lg]
  have e : (sumN ws.length fun t => ((List.range ws.length).map g).getD t 0 * sumN ws.length fun s => ((List.range ws.length).map f).getD s 0 * r (i + t + s)) = sumN ws.length fun t => g t * sumN ws.length fun s => f s * r (i + t + s) := sumN_congr fun t ht => by
    rw [row_getD ht, sumN_congr (g := fun s => f s * r (i + t + s)) fun s hs => by rw [row_getD hs]]
  rw [e]
  have h1 : N ∣ (sumN ws.length fun t => g t * sumN ws.length fun s => f s * r (i + t + s)) - sumN ws.length fun t => g t * r (i + n + t) := by
    have e2 : (sumN ws.length fun t => g t * sumN ws.length fun s => f s * r (i + t + s)) - (sumN ws.length fun t => g t * r (i + n + t)) = sumN ws.length fun t => g t * ((sumN ws.length fun s => f s * r (i + t + s)) - r (i + t + n)) := by
      have := sumN_add ws.length (fun t => g t * ((sumN ws.length fun s => f s * r (i + t + s)) - r (i + t + n))) (fun t => g t * r (i + n + t))
      rw [sumN_congr (g := fun t => g t * sumN ws.length fun s => f s * r (i + t + s)) fun t _ => by rw [show i + t + n = i + n + t by omega, ← Int.mul_add, Int.sub_add_cancel]] at this
      omega
    rw [e2]
    exact sumN_dvd fun t _ => Int.dvd_mul_of_dvd_right (hf r hr (i + t))
  have h2 := hg r hr (i + n)
  have := Int.dvd_add h1 h2
  rw [show ∀ a b c : Int, a - b + (b - c) = a - c from fun a b c => by omega] at this
  rwa [Nat.add_assoc] at this
end My

namespace My
open PySem PySem.Spec PyProof.Rows L2 Pre
/-! ### rows gone on: plain -/
theorem sum_range (n : Nat) (f : Nat → Int) : ((List.range n).map f).sum = sumN n f := by
  induction n with
  | zero => rfl
  | succ n ih => rw [List.range_succ, List.map_append, List.sum_append, ih, sumN]; simp
/-- the next one -/
def nxtR (h : Int) (ws l : List Int) : Int := (sumN ws.length (fun b => ws.getD b 0 * l.getD (l.length - 1 - b) 0) + h) % (2 * h) - h
/-- a row gone on -/
def goL (h : Int) (ws fs : List Int) : Nat → List Int
  | 0 => fs
  | k + 1 => goL h ws fs k ++ [nxtR h ws (goL h ws fs k)]
theorem goL_len (h : Int) (ws fs : List Int) : ∀ k, (goL h ws fs k).length = fs.length + k
  | 0 => rfl
  | k + 1 => by rw [goL, List.length_append, goL_len h ws fs k]; rfl
def goR (h : Int) (ws fs : List Int) (i : Nat) : Int := (goL h ws fs (i + 1)).getD i 0
theorem goL_at {h : Int} {ws fs : List Int} {i : Nat} : ∀ {k : Nat}, i < fs.length + k → (goL h ws fs k).getD i 0 = goR h ws fs i := by
  have step : ∀ k i, i < fs.length + k → (goL h ws fs (k + 1)).getD i 0 = (goL h ws fs k).getD i 0 := fun k i hi => by
    rw [goL, List.getD_eq_getElem?_getD, List.getElem?_append_left (by rw [goL_len]; exact hi), ← List.getD_eq_getElem?_getD]
  have up : ∀ d k i, i < fs.length + k → (goL h ws fs (k + d)).getD i 0 = (goL h ws fs k).getD i 0 := fun d => by
    induction d with
    | zero => intro k i _; rfl
    | succ d ih => intro k i hi; rw [← Nat.add_assoc, step _ _ (by omega), ih k i hi]
  intro k hi
  unfold goR
  by_cases c : k ≤ i + 1
  · obtain ⟨d, e⟩ := Nat.le.dest c
    rw [← e]
    exact (up d k i hi).symm
  · obtain ⟨d, e⟩ := Nat.le.dest (show i + 1 ≤ k by omega)
    rw [← e]
    exact up d (i + 1) i (by omega)
theorem goR_first {h : Int} {ws fs : List Int} {i : Nat} (hi : i < fs.length) : goR h ws fs i = fs.getD i 0 := (goL_at (k := 0) (by omega)).symm
theorem goR_fol {h : Int} (hh : 0 < h) {ws fs : List Int} (e : fs.length = ws.length) : Fol (2 * h) ws (goR h ws fs) := by
  intro i
  have e1 : goR h ws fs (i + ws.length) = nxtR h ws (goL h ws fs i) := by
    rw [← goL_at (k := i + 1) (by omega), goL, List.getD_eq_getElem?_getD, List.getElem?_append_right (by rw [goL_len]; omega), goL_len, show i + ws.length - (fs.length + i) = 0 by omega]
    rfl
  have e2 : sumN ws.length (fun b => ws.getD b 0 * (goL h ws fs i).getD ((goL h ws fs i).length - 1 - b) 0) = sumN ws.length fun b => ws.getD b 0 * goR h ws fs (i + ws.length - 1 - b) := sumN_congr fun b hb => by
    rw [goL_len, goL_at (by omega), show fs.length + i - 1 - b = i + ws.length - 1 - b by omega]
  rw [e1, ← e2]
  unfold nxtR
  generalize sumN ws.length (fun b => ws.getD b 0 * (goL h ws fs i).getD ((goL h ws fs i).length - 1 - b) 0) = S
  have := Int.dvd_self_sub_emod (x := S + h) (m := 2 * h)
  have h2 := Int.dvd_neg.mpr this
  rw [show -(S + h - (S + h) % (2 * h)) = (S + h) % (2 * h) - h - S by omega] at h2
  exact h2
theorem two_half {d : Nat} (h : 1 ≤ d) : 2 * (2 ^ (d - 1) : Int) = 2 ^ d := by
  obtain ⟨e, rfl⟩ : ∃ e, d = e + 1 := ⟨d - 1, by omega⟩
  rw [Nat.add_sub_cancel, Int.pow_succ, Int.mul_comm]
theorem half_pos (d : Nat) : (0 : Int) < 2 ^ (d - 1) := Int.pow_pos (by decide)
theorem goR_range {h : Int} (hh : 0 < h) {ws fs : List Int} (hf : ∀ x ∈ fs, -h ≤ x ∧ x < h) (i : Nat) : -h ≤ goR h ws fs i ∧ goR h ws fs i < h := by
  by_cases c : i < fs.length
  · rw [goR_first c, List.getD_eq_getElem?_getD, List.getElem?_eq_getElem c]
    exact hf _ (List.getElem_mem c)
  · obtain ⟨k, rfl⟩ := Nat.le.dest (show fs.length ≤ i by omega)
    rw [← goL_at (k := k + 1) (by omega), goL, List.getD_eq_getElem?_getD, List.getElem?_append_right (by rw [goL_len]; omega), goL_len, show fs.length + k - (fs.length + k) = 0 by omega]
    show -h ≤ nxtR h ws (goL h ws fs k) ∧ nxtR h ws (goL h ws fs k) < h
    unfold nxtR
    have h1 := Int.emod_nonneg ((sumN ws.length fun b => ws.getD b 0 * (goL h ws fs k).getD ((goL h ws fs k).length - 1 - b) 0) + h) (show 2 * h ≠ 0 by omega)
    have h2 := Int.emod_lt_of_pos ((sumN ws.length fun b => ws.getD b 0 * (goL h ws fs k).getD ((goL h ws fs k).length - 1 - b) 0) + h) (show 0 < 2 * h by omega)
    omega
/-- wrapped, what tells a number within a half is that number -/
theorem wrap_eq {h x y : Int} (hy : -h ≤ y ∧ y < h) (hd : 2 * h ∣ x - y) : (x + h) % (2 * h) - h = y := by
  obtain ⟨c, hc⟩ := hd
  have e : x + h = (y + h) + 2 * h * c := by omega
  rw [e, Int.add_mul_emod_self_left, Int.emod_eq_of_lt (by omega) (by omega)]
  omega
end My

namespace My
/-! ### rows come round: operators on sequences -/
/-- linear over the whole numbers, and alike at all places -/
structure Lin (F : (Nat → Int) → Nat → Int) : Prop where
  add : ∀ u v i, F (fun j => u j + v j) i = F u i + F v i
  mul : ∀ c u i, F (fun j => c * u j) i = c * F u i
  sh : ∀ u i, F (fun j => u (j + 1)) i = F u (i + 1)
theorem Lin.shk {F : (Nat → Int) → Nat → Int} (h : Lin F) (u : Nat → Int) (k i : Nat) : F (fun j => u (j + k)) i = F u (i + k) := by
  induction k generalizing i with
  | zero => rfl
  | succ k ih =>
    have e : (fun j => u (j + (k + 1))) = fun j => (fun t => u (t + k)) (j + 1) := by funext j; show u (j + (k + 1)) = u (j + 1 + k); congr 1; omega
    rw [e, h.sh (fun t => u (t + k)) i, ih]
    congr 1
    omega
theorem Lin.zero {F : (Nat → Int) → Nat → Int} (h : Lin F) (i : Nat) : F (fun _ => 0) i = 0 := by
  have := h.mul 0 (fun _ => 0) i
  simpa using this
theorem Lin.dvd {F : (Nat → Int) → Nat → Int} (h : Lin F) {N : Int} {u : Nat → Int} (d : ∀ j, N ∣ u j) (i : Nat) : N ∣ F u i := by
  have e : u = fun j => N * (u j / N) := by funext j; exact (Int.mul_ediv_cancel' (d j)).symm
  rw [e, h.mul]
  exact Int.dvd_mul_right _ _
theorem Lin.sum {F : (Nat → Int) → Nat → Int} (h : Lin F) (n : Nat) (c : Nat → Int) (u : Nat → Int) (e : Nat → Nat) (i : Nat) : F (fun j => sumN n fun b => c b * u (j + e b)) i = sumN n fun b => c b * F u (i + e b) := by
  induction n with
  | zero => exact h.zero i
  | succ n ih =>
    show F (fun j => (sumN n fun b => c b * u (j + e b)) + c n * u (j + e n)) i = _
    rw [h.add (fun j => sumN n fun b => c b * u (j + e b)) (fun j => c n * u (j + e n)) i, ih, h.mul (c n) (fun j => u (j + e n)) i, h.shk u (e n) i]
    rfl
/-- a list of powers at work -/
def actL (A : List Int) (u : Nat → Int) (i : Nat) : Int := sumN A.length fun p => A.getD p 0 * u (i + p)
theorem Lin.act {F : (Nat → Int) → Nat → Int} (h : Lin F) (A : List Int) (u : Nat → Int) (i : Nat) : F (actL A u) i = actL A (F u) i := h.sum A.length (fun p => A.getD p 0) u (fun p => p) i
theorem Lin.fol {F : (Nat → Int) → Nat → Int} (h : Lin F) {N : Int} {w : List Int} {r : Nat → Int} (hr : Fol N w r) : Fol N w (F r) := by
  rw [fol_asP] at hr ⊢
  intro i
  have := h.dvd (u := actL (asP w) r) hr i
  rw [h.act] at this
  exact this
theorem lin_act (A : List Int) : Lin (actL A) where
  add u v i := by
    unfold actL
    rw [← sumN_add]
    exact sumN_congr fun p _ => Int.mul_add _ _ _
  mul c u i := by
    unfold actL
    rw [← sumN_mul]
    refine sumN_congr fun p _ => ?_
    rw [← Int.mul_assoc, ← Int.mul_assoc, Int.mul_comm (A.getD p 0)]
  sh u i := by
    unfold actL
    exact sumN_congr fun p _ => by show A.getD p 0 * u (i + p + 1) = A.getD p 0 * u (i + 1 + p); rw [show i + p + 1 = i + 1 + p by omega]
theorem lin_comp {F G : (Nat → Int) → Nat → Int} (hF : Lin F) (hG : Lin G) : Lin fun u => F (G u) where
  add u v i := by
    have e : G (fun j => u j + v j) = fun j => G u j + G v j := funext fun j => hG.add u v j
    rw [e, hF.add]
  mul c u i := by
    have e : G (fun j => c * u j) = fun j => c * G u j := funext fun j => hG.mul c u j
    rw [e, hF.mul]
  sh u i := by
    have e : G (fun j => u (j + 1)) = fun j => G u (j + 1) := funext fun j => hG.sh u j
    rw [e, hF.sh]
theorem lin_add {F G : (Nat → Int) → Nat → Int} (hF : Lin F) (hG : Lin G) : Lin fun u i => F u i + G u i where
  add u v i := by rw [hF.add, hG.add]; omega
  mul c u i := by rw [hF.mul, hG.mul, Int.mul_add]
  sh u i := by rw [hF.sh, hG.sh]
theorem lin_mul (c : Int) {F : (Nat → Int) → Nat → Int} (hF : Lin F) : Lin fun u i => c * F u i where
  add u v i := by rw [hF.add, Int.mul_add]
  mul e u i := by rw [hF.mul, ← Int.mul_assoc, ← Int.mul_assoc, Int.mul_comm c]
  sh u i := by rw [hF.sh]
theorem lin_shift (k : Nat) {F : (Nat → Int) → Nat → Int} (hF : Lin F) : Lin fun u i => F u (i + k) where
  add u v i := hF.add _ _ _
  mul c u i := hF.mul _ _ _
  sh u i := by rw [hF.sh, show i + k + 1 = i + 1 + k by omega]
theorem lin_zero : Lin fun _ _ => 0 where
  add _ _ _ := rfl
  mul c _ _ := (Int.mul_zero c).symm
  sh _ _ := rfl
/-- the turn of a rule over two: what goes T places on is what stays, but for the rule's own and for doubles -/
def Turn (q : List Int) (T : Nat) : Prop := ∃ C E : (Nat → Int) → Nat → Int, Lin C ∧ Lin E ∧ ∀ r i, r (i + T) - r i = C (actL (asP q) r) i + 2 * E r i
/-- a rule is its odd part, k places on, but for doubles -/
def Odd (ws q : List Int) (k : Nat) : Prop := ∃ R : (Nat → Int) → Nat → Int, Lin R ∧ ∀ r i, actL (asP ws) r i = actL (asP q) r (i + k) + 2 * R r i
theorem turn_one {N : Int} {ws q : List Int} {k T : Nat} (ho : Odd ws q k) (ht : Turn q T) : ∃ G, Lin G ∧ ∀ r, Fol N ws r → ∀ i, N ∣ r (i + k + T) - r (i + k) - 2 * G r i := by
  obtain ⟨R, hR, eR⟩ := ho
  obtain ⟨C, E, hC, hE, eT⟩ := ht
  refine ⟨fun u i => E u (i + k) + (-1) * C (R u) i, lin_add (lin_shift k hE) (lin_mul (-1) (lin_comp hC hR)), fun r hr i => ?_⟩
  rw [eT r (i + k), ← hC.shk (actL (asP q) r) k i]
  have e : (fun j => actL (asP q) r (j + k)) = fun j => actL (asP ws) r j + (-2) * R r j := funext fun j => by rw [eR]; omega
  rw [e, hC.add (actL (asP ws) r) (fun j => (-2) * R r j) i, hC.mul (-2) (R r) i]
  have h := hC.dvd (N := N) (u := actL (asP ws) r) (fol_asP.mp hr) i
  have e2 : C (actL (asP ws) r) i + -2 * C (R r) i + 2 * E r (i + k) - 2 * (E r (i + k) + -1 * C (R r) i) = C (actL (asP ws) r) i := by omega
  rw [e2]
  exact h
theorem turn_many {N : Int} {ws q : List Int} {k T : Nat} (ho : Odd ws q k) (ht : Turn q T) (n : Nat) : ∃ G, Lin G ∧ ∀ r, Fol N ws r → ∀ i, N ∣ r (i + k + T * n) - r (i + k) - 2 * G r i := by
  induction n with
  | zero => exact ⟨_, lin_zero, fun r _ i => by rw [Nat.mul_zero, Nat.add_zero, Int.sub_self]; exact Int.dvd_zero _⟩
  | succ n ih =>
    obtain ⟨G, hG, h1⟩ := ih
    obtain ⟨G1, hG1, h2⟩ := turn_one (N := N) ho ht
    refine ⟨fun u i => G1 u (i + T * n) + G u i, lin_add (lin_shift _ hG1) hG, fun r hr i => ?_⟩
    have a := h1 r hr i
    have b := h2 r hr (i + T * n)
    have := Int.dvd_add a b
    rw [show i + T * n + k + T = i + k + T * (n + 1) by rw [Nat.mul_succ]; omega, show i + T * n + k = i + k + T * n by omega] at this
    rw [show r (i + k + T * n) - r (i + k) - 2 * G r i + (r (i + k + T * (n + 1)) - r (i + k + T * n) - 2 * G1 r (i + T * n)) = r (i + k + T * (n + 1)) - r (i + k) - 2 * (G1 r (i + T * n) + G r i) by omega] at this
    exact this
/-- after j parts of the tail, T doubled j - 1 times comes round but for 2 ^ j -/
theorem turn_pow {N : Int} {ws q : List Int} {k T : Nat} (ho : Odd ws q k) (ht : Turn q T) (j : Nat) : ∃ G, Lin G ∧ ∀ r, Fol N ws r → ∀ i, N ∣ r (i + k * (j + 1) + T * 2 ^ j) - r (i + k * (j + 1)) - 2 ^ (j + 1) * G r i := by
  induction j with
  | zero =>
    obtain ⟨G, hG, h⟩ := turn_one (N := N) ho ht
    exact ⟨G, hG, fun r hr i => by simpa using h r hr i⟩
  | succ j ih =>
    obtain ⟨G, hG, h1⟩ := ih
    obtain ⟨G2, hG2, h2⟩ := turn_many (N := N) ho ht (2 ^ j)
    refine ⟨fun u i => G2 (G u) i + G u (i + k), lin_add (lin_comp hG2 hG) (lin_shift k hG), fun r hr i => ?_⟩
    have a := h1 r hr (i + k)
    have b := h1 r hr (i + k + T * 2 ^ j)
    have c : N ∣ (2 : Int) ^ (j + 1) * _ := Int.dvd_mul_of_dvd_right (h2 (G r) (hG.fol hr) i)
    have e1 : i + k + k * (j + 1) = i + k * (j + 1 + 1) := by rw [Nat.mul_succ k (j + 1)]; omega
    have e2 : i + k + T * 2 ^ j + k * (j + 1) = i + k * (j + 1 + 1) + T * 2 ^ j := by rw [Nat.mul_succ k (j + 1)]; omega
    rw [e1] at a
    rw [e2, show i + k * (j + 1 + 1) + T * 2 ^ j + T * 2 ^ j = i + k * (j + 1 + 1) + T * 2 ^ (j + 1) by rw [Nat.pow_succ, Nat.mul_comm (2 ^ j) 2, Nat.mul_left_comm T 2, Nat.two_mul]; omega] at b
    generalize i + k * (j + 1 + 1) = p at *
    have := Int.dvd_add (Int.dvd_add a b) c
    rw [Int.pow_succ (2 : Int) (j + 1)]
    generalize (2 : Int) ^ (j + 1) = z at *
    refine Eq.mp (congrArg (N ∣ ·) ?_) this
    rw [Int.mul_sub, Int.mul_sub, Int.mul_add, Int.mul_assoc z 2 (G2 (G r) i), Int.mul_assoc z 2 (G r (i + k))]
    rw [show z * (2 * G r (i + k)) = z * G r (i + k) + z * G r (i + k) by rw [← Int.mul_add, ← Int.two_mul]]
    omega
theorem comes_round {d : Nat} (d1 : 1 ≤ d) {ws q : List Int} {k T : Nat} (ho : Odd ws q k) (ht : Turn q T) {r : Nat → Int} (hr : Fol (2 ^ d) ws r) (i : Nat) : (2 ^ d : Int) ∣ r (i + k * d + T * 2 ^ (d - 1)) - r (i + k * d) := by
  obtain ⟨G, _, h⟩ := turn_pow (N := 2 ^ d) ho ht (d - 1)
  have := h r hr i
  rw [show d - 1 + 1 = d by omega] at this
  have e := Int.dvd_add this (Int.dvd_mul_right (2 ^ d) (G r i))
  rwa [Int.sub_add_cancel] at e
end My

namespace My
/-! ### the turn of a rule over two -/
/-- alike but for the rule's own and for doubles -/
def Alk (q : List Int) (F G : (Nat → Int) → Nat → Int) : Prop := ∃ C E : (Nat → Int) → Nat → Int, Lin C ∧ Lin E ∧ ∀ r i, F r i - G r i = C (actL (asP q) r) i + 2 * E r i
theorem Alk.refl {q : List Int} (F : (Nat → Int) → Nat → Int) : Alk q F F := ⟨_, _, lin_zero, lin_zero, fun r i => by show F r i - F r i = 0 + 2 * 0; omega⟩
theorem Alk.trans {q : List Int} {F G K : (Nat → Int) → Nat → Int} (a : Alk q F G) (b : Alk q G K) : Alk q F K := by
  obtain ⟨C, E, hC, hE, h⟩ := a
  obtain ⟨C2, E2, hC2, hE2, h2⟩ := b
  exact ⟨_, _, lin_add hC hC2, lin_add hE hE2, fun r i => by have := h r i; have := h2 r i; show _ = C _ i + C2 _ i + 2 * (E r i + E2 r i); omega⟩
theorem Alk.symm {q : List Int} {F G : (Nat → Int) → Nat → Int} (a : Alk q F G) : Alk q G F := by
  obtain ⟨C, E, hC, hE, h⟩ := a
  exact ⟨_, _, lin_mul (-1) hC, lin_mul (-1) hE, fun r i => by have := h r i; show _ = -1 * C _ i + 2 * (-1 * E r i); omega⟩
theorem Alk.shift {q : List Int} {F G : (Nat → Int) → Nat → Int} (a : Alk q F G) (k : Nat) : Alk q (fun r i => F r (i + k)) (fun r i => G r (i + k)) := by
  obtain ⟨C, E, hC, hE, h⟩ := a
  exact ⟨_, _, lin_shift k hC, lin_shift k hE, fun r i => h r (i + k)⟩
theorem Alk.turn {q : List Int} {T : Nat} (a : Alk q (fun r i => r (i + T)) fun r i => r i) : Turn q T := a
/-- powers at work -/
def actF (n : Nat) (f : Nat → Int) (r : Nat → Int) (i : Nat) : Int := sumN n fun p => f p * r (i + p)
theorem lin_actF (n : Nat) (f : Nat → Int) : Lin (actF n f) where
  add u v i := by
    unfold actF
    rw [← sumN_add]
    exact sumN_congr fun p _ => Int.mul_add _ _ _
  mul c u i := by
    unfold actF
    rw [← sumN_mul]
    refine sumN_congr fun p _ => ?_
    rw [← Int.mul_assoc, ← Int.mul_assoc, Int.mul_comm (f p)]
  sh u i := by
    unfold actF
    exact sumN_congr fun p _ => by show f p * u (i + p + 1) = f p * u (i + 1 + p); rw [show i + p + 1 = i + 1 + p by omega]
theorem actF_two {n : Nat} {f g h : Nat → Int} (e : ∀ p, p < n → f p = g p + 2 * h p) (r : Nat → Int) (i : Nat) : actF n f r i = actF n g r i + 2 * actF n h r i := by
  unfold actF
  rw [← sumN_mul, ← sumN_add]
  exact sumN_congr fun p hp => by rw [e p hp, Int.add_mul, Int.mul_assoc]
/-- one power led down -/
theorem upd_alk {q : List Int} {f : Nat → Int} {top : Nat} (ht : q.length ≤ top) : Alk q (actF (top + 1) f) (actF top (updW 2 q f top q.length)) := by
  let c : Nat → Int := fun p => f p + if top - 1 - p < q.length then f top * q.getD (top - 1 - p) 0 else 0
  let g : Nat → Int := fun p => if top - 1 - p < q.length then c p / 2 else 0
  have h1 : ∀ r i, actF top c r i = actF top (updW 2 q f top q.length) r i + 2 * actF top g r i := actF_two fun p hp => by
    show (f p + if top - 1 - p < q.length then f top * q.getD (top - 1 - p) 0 else 0) = updW 2 q f top q.length p + 2 * (if top - 1 - p < q.length then (f p + if top - 1 - p < q.length then f top * q.getD (top - 1 - p) 0 else 0) / 2 else 0)
    unfold updW
    by_cases k : top - 1 - p < q.length
    · rw [if_pos k, if_pos ⟨hp, k⟩, if_pos k]
      omega
    · rw [if_neg k, if_neg fun z => k z.2, if_neg k]
      omega
  have h2 : ∀ r i, actF top c r i = actF top f r i + f top * sumN q.length fun b => q.getD b 0 * r (i + top - 1 - b) := fun r i => by
    show sumN top (fun p => (f p + if top - 1 - p < q.length then f top * q.getD (top - 1 - p) 0 else 0) * r (i + p)) = sumN top (fun p => f p * r (i + p)) + f top * sumN q.length fun b => q.getD b 0 * r (i + top - 1 - b)
    have e1 : (fun p => (f p + if top - 1 - p < q.length then f top * q.getD (top - 1 - p) 0 else 0) * r (i + p)) = fun p => f p * r (i + p) + (if top - 1 - p < q.length then f top * q.getD (top - 1 - p) 0 else 0) * r (i + p) := by
      funext p
      rw [Int.add_mul]
    rw [e1, sumN_add]
    congr 1
    rw [← sumN_mul]
    have e2 : sumN top (fun p => (if top - 1 - p < q.length then f top * q.getD (top - 1 - p) 0 else 0) * r (i + p)) = sumN top fun p => (fun b => (if b < q.length then f top * q.getD b 0 else 0) * r (i + top - 1 - b)) (top - 1 - p) := by
      refine sumN_congr fun p hp => ?_
      dsimp only
      rw [show i + top - 1 - (top - 1 - p) = i + p by omega]
    refine e2.trans ((sumN_rev top fun b => (if b < q.length then f top * q.getD b 0 else 0) * r (i + top - 1 - b)).trans ?_)
    rw [sumN_cut ht fun b h1 h2 => by rw [if_neg (by omega), Int.zero_mul]]
    refine sumN_congr fun b hb => ?_
    rw [if_pos hb, Int.mul_assoc]
  refine ⟨_, _, lin_mul (f top) (lin_shift (top - q.length) (lin_actF 1 fun _ => 1)), lin_actF top g, fun r i => ?_⟩
  have h3 := asP_sum q r (i + (top - q.length))
  have e3 : actF 1 (fun _ => 1) (actL (asP q) r) (i + (top - q.length)) = actL (asP q) r (i + (top - q.length)) := by
    unfold actF
    simp [sumN]
  show actF (top + 1) f r i - _ = f top * actF 1 (fun _ => 1) (actL (asP q) r) (i + (top - q.length)) + 2 * actF top g r i
  rw [e3]
  unfold actL
  rw [h3, show i + (top - q.length) + q.length = i + top by omega]
  have e4 : actF (top + 1) f r i = actF top f r i + f top * r (i + top) := rfl
  have a := h1 r i
  have b := h2 r i
  rw [e4, Int.mul_sub]
  omega
theorem led_alk {q : List Int} {f : Nat → Int} {L : Nat} : ∀ t, t + q.length ≤ L → Alk q (actF L f) (actF (L - t) (ledN 2 q f L t))
  | 0, _ => Alk.refl _
  | t + 1, h => by
    have ih := led_alk (q := q) (f := f) (L := L) t (by omega)
    have h1 := upd_alk (q := q) (f := ledN 2 q f L t) (top := L - 1 - t) (by omega)
    rw [show L - 1 - t + 1 = L - t by omega] at h1
    rw [show L - (t + 1) = L - 1 - t by omega]
    exact ih.trans h1
theorem Alk.of_eq {q : List Int} {F G : (Nat → Int) → Nat → Int} (h : ∀ r i, F r i = G r i) : Alk q F G := ⟨_, _, lin_zero, lin_zero, fun r i => by show F r i - G r i = 0 + 2 * 0; rw [h]; omega⟩
theorem actF_congr {n : Nat} {f g : Nat → Int} (e : ∀ p, p < n → f p = g p) (r : Nat → Int) (i : Nat) : actF n f r i = actF n g r i := sumN_congr fun p hp => by rw [e p hp]
theorem red_alk (q A : List Int) : Alk q (actF A.length fun p => A.getD p 0) (actF q.length (redP 2 q A)) := by
  have h1 := led_alk (q := q) (f := iniP 2 A) (L := lenP q A) (lenP q A - q.length) (by unfold lenP; omega)
  rw [show lenP q A - (lenP q A - q.length) = q.length by unfold lenP; omega] at h1
  refine Alk.trans ?_ h1
  have h2 : Alk q (actF (lenP q A) fun p => A.getD p 0) (actF (lenP q A) (iniP 2 A)) := ⟨_, _, lin_zero, lin_actF (lenP q A) fun p => A.getD p 0 / 2, fun r i => by
    have := actF_two (n := lenP q A) (f := fun p => A.getD p 0) (g := iniP 2 A) (h := fun p => A.getD p 0 / 2) (fun p _ => by unfold iniP; omega) r i
    show _ = 0 + 2 * actF (lenP q A) (fun p => A.getD p 0 / 2) r i
    omega⟩
  refine Alk.trans (Alk.of_eq fun r i => ?_) h2
  exact (sumN_cut (n := lenP q A) (k := A.length) (f := fun p => A.getD p 0 * r (i + p)) (by unfold lenP; omega) fun p h1 _ => by rw [List.getD_eq_getElem?_getD, List.getElem?_eq_none h1]; exact Int.zero_mul _).symm
/-- the powers of the t-th place, over two -/
def pwL (q : List Int) : Nat → Nat → Int
  | 0 => redP 2 q [1]
  | t + 1 => redP 2 q (0 :: (List.range q.length).map (pwL q t))
theorem pw_alk (q : List Int) : ∀ t, Alk q (fun r i => r (i + t)) (actF q.length (pwL q t))
  | 0 => Alk.trans (Alk.of_eq fun r i => by show r i = sumN 1 fun p => ([1] : List Int).getD p 0 * r (i + p); simp [sumN]) (red_alk q [1])
  | t + 1 => by
    have h := (pw_alk q t).shift 1
    refine Alk.trans (Alk.of_eq fun r i => by show r (i + (t + 1)) = r (i + 1 + t); congr 1; omega) (h.trans (Alk.trans (Alk.of_eq fun r i => ?_) (red_alk q (0 :: (List.range q.length).map (pwL q t)))))
    show (sumN q.length fun p => pwL q t p * r (i + 1 + p)) = sumN (0 :: (List.range q.length).map (pwL q t)).length fun p => (0 :: (List.range q.length).map (pwL q t)).getD p 0 * r (i + p)
    rw [List.length_cons, List.length_map, List.length_range, sumN_front]
    show _ = (0 : Int) * r (i + 0) + _
    rw [Int.zero_mul, Int.zero_add]
    refine sumN_congr fun p hp => ?_
    rw [List.getD_cons_succ, List.getD_eq_getElem?_getD, List.getElem?_map, List.getElem?_range hp, show i + 1 + p = i + (p + 1) by omega]
    rfl
theorem turn_of {q : List Int} {T : Nat} (h : ∀ p, p < q.length → pwL q T p = pwL q 0 p) : Turn q T := ((pw_alk q T).trans ((Alk.of_eq fun r i => actF_congr h r i).trans (pw_alk q 0).symm)).turn
/-- the odd part of a rule -/
theorem odd_take {ws : List Int} {n : Nat} (hn : n ≤ ws.length) (he : ∀ b, n ≤ b → b < ws.length → ws.getD b 0 % 2 = 0) : Odd ws (ws.take n) (ws.length - n) := by
  have hl : (ws.take n).length = n := by rw [List.length_take]; omega
  refine ⟨fun r i => -1 * sumN (ws.length - n) fun b => ws.getD (n + b) 0 / 2 * r (i + (ws.length - n - 1 - b)), ?_, fun r i => ?_⟩
  · refine lin_mul (-1) (F := fun r i => sumN (ws.length - n) fun b => ws.getD (n + b) 0 / 2 * r (i + (ws.length - n - 1 - b))) ?_
    constructor
    · intro u v i
      rw [← sumN_add]
      exact sumN_congr fun p _ => Int.mul_add _ _ _
    · intro c u i
      rw [← sumN_mul]
      refine sumN_congr fun p _ => ?_
      rw [← Int.mul_assoc, ← Int.mul_assoc, Int.mul_comm c]
    · intro u i
      exact sumN_congr fun p _ => by show _ * u (i + (ws.length - n - 1 - p) + 1) = _ * u (i + 1 + (ws.length - n - 1 - p)); rw [show i + (ws.length - n - 1 - p) + 1 = i + 1 + (ws.length - n - 1 - p) by omega]
  · have h1 : actL (asP ws) r i = _ := asP_sum ws r i
    have h2 : actL (asP (ws.take n)) r (i + (ws.length - n)) = _ := asP_sum (ws.take n) r (i + (ws.length - n))
    rw [h1, h2, hl, show i + (ws.length - n) + n = i + ws.length by omega]
    have h3 := sumN_split n (ws.length - n) fun b => ws.getD b 0 * r (i + ws.length - 1 - b)
    rw [show n + (ws.length - n) = ws.length by omega] at h3
    rw [h3]
    have h4 : (sumN n fun b => (ws.take n).getD b 0 * r (i + ws.length - 1 - b)) = sumN n fun b => ws.getD b 0 * r (i + ws.length - 1 - b) := sumN_congr fun b hb => by
      rw [List.getD_eq_getElem?_getD, List.getElem?_take, if_pos hb, ← List.getD_eq_getElem?_getD]
    have h5 : (sumN (ws.length - n) fun b => ws.getD (n + b) 0 * r (i + ws.length - 1 - (n + b))) = 2 * sumN (ws.length - n) fun b => ws.getD (n + b) 0 / 2 * r (i + (ws.length - n - 1 - b)) := by
      rw [← sumN_mul]
      refine sumN_congr fun b hb => ?_
      have := he (n + b) (by omega) (by omega)
      rw [← Int.mul_assoc, show 2 * (ws.getD (n + b) 0 / 2) = ws.getD (n + b) 0 by omega, show i + ws.length - 1 - (n + b) = i + (ws.length - n - 1 - b) by omega]
    rw [h4, h5]
    dsimp only
    omega
end My

namespace My
open PySem PySem.Spec PyProof.Rows L2 Pre
/-! ### rows of rules, in a program -/
local macro_rules | `(tactic| walk_at "go") => `(tactic| repeat (first | (with_reducible first | refine iteT ?_ | refine iteF ?_ | refine iteNtt ?_ | refine iteNff ?_ | refine iteET (by omega) ?_ | refine iteEF (by omega) ?_ | refine iteENT (by omega) ?_ | refine iteENF (by omega) ?_ | refine iteDT (by omega) ?_ | refine iteDF (by omega) ?_ | refine iteNT (by omega) ?_ | refine iteNF (by omega) ?_) | refine ⟨_, rfl, ?_⟩ | refine ⟨_, _, rfl, rfl, ?_⟩ | refine ⟨_, _, rfl, ?_⟩ | refine ⟨rfl, ?_⟩ | refine .inl ⟨_, rfl, ?_⟩ | refine .inr ⟨_, rfl, ?_⟩))
local macro_rules | `(tactic| walk_at "b") => `(tactic| try dsimp (config := { proj := false, iota := false, eta := false, zeta := false }) only)
section
variable {P : Program} {w : World} {K : PySem.W.Frag} {mg : Str → Option Value} {base : Heap} [pf : Sup.PF P fileS]
def sp_multiplied (K : PySem.W.Frag) : Sp := fun vs H Q _ => ∃ (a b : Addr) (As Bs : List Int), vs = [.ref a, .ref b] ∧ H a = some (.lst (As.map V.int)) ∧ H b = some (.lst (Bs.map V.int)) ∧ As.length ≤ 20 ∧ Bs.length ≤ 20 ∧ (∀ x ∈ As, x.natAbs ≤ 2 ^ 40) ∧ ∀ H' p, Same H H' → H p = none → H' p = some (.lst ((mulL As Bs).map V.int)) → Q (.ref p) H'
theorem G_multiplied (T : Top K mg) : FnOk P w K mg base CX0 1 T.f_multiplied T.fd_multiplied ["one", "other"] (sp_multiplied K) := by
  refine T.F_multiplied.ok sc_multiplied (fun vs H Q E h => by obtain ⟨a, b, As, Bs, rfl, _⟩ := h; rfl) (fun cdv A outer s H vs Q E hr h => ?_)
  obtain ⟨a, b, As, Bs, rfl, ha, hb, lA, lB, bA, q⟩ := h
  refine ⟨_, PSs.nox (pss_cons (ps_set (i := 2) sc_multiplied.nd rfl (by first | exact Or.inl rfl | exact Or.inr rfl) (pe_op op_rep (pe_lst (pa_cons pe_int pa_nil)) (pe_callB (call_max2 rfl) (by rfl) T.n_max (by decide +kernel) (pa_cons (pe_op op_sub (pe_op op_add (pe_callB (k_len K rfl) (by rfl) T.n_len (by decide +kernel) (pa_cons (pv 0) pa_nil)) (pe_callB (k_len K rfl) (by rfl) T.n_len (by decide +kernel) (pa_cons (pv 1) pa_nil))) pe_int) (pa_cons pe_int pa_nil)))))
  (pss_cons (ps_for PassesOwn.never rfl (k_piE K rfl (by rfl) T.n_enumerate (pa_cons (pv 0) pa_nil)) (k_pgT K rfl (by rfl) (pgs_cons (pg_name (i := 3) sc_multiplied.nd rfl (by first | exact Or.inl rfl | exact Or.inr rfl)) (pgs_cons (pg_name (i := 4) sc_multiplied.nd rfl (by first | exact Or.inl rfl | exact Or.inr rfl)) pgs_nil)))
    (pss_one (ps_for PassesOwn.never rfl (k_piE K rfl (by rfl) T.n_enumerate (pa_cons (pv 1) pa_nil)) (k_pgT K rfl (by rfl) (pgs_cons (pg_name (i := 5) sc_multiplied.nd rfl (by first | exact Or.inl rfl | exact Or.inr rfl)) (pgs_cons (pg_name (i := 6) sc_multiplied.nd rfl (by first | exact Or.inl rfl | exact Or.inr rfl)) pgs_nil)))
    (pss_one (ps_asg (pe_op op_add (pe_ix (k_ixL K rfl) (pv 2) (pe_op op_add (pv 3) (pv 5)) (fun _ _ => rfl)) (pe_op op_mul (pv 4) (pv 6))) (pg_sub (pv 2) (pe_op op_add (pv 3) (pv 5)) set_list))))))
  (pss_one (ps_ret (pv 2))))), ?_⟩
  refine ⟨(by show 1 ≤ sizeLine; decide), fun p1 np1 => ?_⟩
  obtain ⟨H1, e1, s1, hp1⟩ := fresh (.lst [V.int 0]) np1
  rw [e1]
  refine ⟨_, rfl, a, _, rfl, .inl (.inl (.inl (s1 _ _ ha))), _, rfl, b, _, rfl, .inl (.inl (.inl (s1 _ _ hb))), _, _, rfl, rfl, _, _, rfl, rfl, ?_⟩
  refine ⟨_, _, rfl, ?_⟩
  dsimp only
  rw [List.length_map, List.length_map, show (if ((As.length : Int) + (Bs.length : Int) - 1) < 0 then (0 : Int) else ((As.length : Int) + (Bs.length : Int) - 1)) = ((As.length + Bs.length - 1 : Nat) : Int) by split <;> omega]
  refine ⟨p1, _, _, rfl, rfl, hp1, by omega, by omega, by rw [Int.toNat_natCast, sizeLine_eq]; show 1 * _ ≤ _; omega, fun F nF => ?_⟩
  rw [Int.toNat_natCast, rep_int]
  have e0 : (List.replicate (As.length + Bs.length - 1) (0 : Int)).map V.int = rowZ (As.length + Bs.length - 1) (cvF As Bs 0 0) := rowZ_ext (by rw [List.length_map, List.length_replicate]) fun i hi => by rw [List.getElem?_map, List.getElem?_replicate, if_pos hi, cvF_nil]; rfl
  rw [e0]
  obtain ⟨H2, e2, s2, hF⟩ := fresh (.lst (rowZ (As.length + Bs.length - 1) (cvF As Bs 0 0))) nF
  rw [e2]
  have nFH : H F = none := s1.free nF
  have s02 := s1.trans s2
  walk_at "b"
  refine ⟨_, rfl, a, _, rfl, .inl (.inl (s02 _ _ ha)), ?_⟩
  refine for_it (walk_enum (K := K) (a := a) (xs := As.map V.int)) (fun i σ HA => ∃ v3 v4 v5 v6 : Option V, σ = [some (.ref a), some (.ref b), some (.ref F), v3, v4, v5, v6] ∧ Same H HA ∧ HA F = some (.lst (rowZ (As.length + Bs.length - 1) (cvF As Bs i 0)))) ⟨none, none, none, none, rfl, s02, hF⟩ (fun i σ HA _ ⟨_, _, _, _, _, sA, _⟩ => .inl (.inl (sA _ _ ha))) ?_ ?_
  · rintro i x σ H6 H7 hi ⟨v3, v4, v5, v6, rfl, s6, hp6⟩ ⟨T1, x1, y1, rfl, nT, rfl, ex, ey⟩
    dsimp only at ex ey
    cases ex
    obtain ⟨wi, hwi, rfl⟩ := int_at ey
    have hi' : i < As.length := by rw [List.length_map] at hi; exact hi
    have ewi : As.getD i 0 = wi := by rw [List.getD_eq_getElem?_getD, hwi]; rfl
    have hwb := bA wi (List.mem_of_getElem? hwi)
    refine ⟨T1, _, rfl, .inl (.inl upd_same), rfl, _, _, rfl, _, _, rfl, rfl, ?_⟩
    have sT := same_upd (o := .tup [V.int (i : Int), V.int wi]) nT
    have hp7 := sT _ _ hp6
    have s7 := s6.trans sT
    generalize upd H6 T1 (.tup [V.int (i : Int), V.int wi]) = H7 at *
    refine ⟨_, rfl, b, _, rfl, .inl (.inl (s7 _ _ hb)), ?_⟩
    refine for_it (walk_enum (K := K) (a := b) (xs := Bs.map V.int)) (fun j σ HB => ∃ v5 v6 : Option V, σ = [some (.ref a), some (.ref b), some (.ref F), some (.int (i : Nat)), some (.int wi), v5, v6] ∧ Same H HB ∧ HB F = some (.lst (rowZ (As.length + Bs.length - 1) (cvF As Bs i j)))) ⟨v5, v6, rfl, s7, hp7⟩ (fun j σ HB _ ⟨_, _, _, sB, _⟩ => .inl (.inl (sB _ _ hb))) ?_ ?_
    · rintro j x σ H8 H9 hj ⟨v5, v6, rfl, s8, hp8⟩ ⟨T2, x2, y2, rfl, nT2, rfl, ex, ey⟩
      dsimp only at ex ey
      cases ex
      obtain ⟨uj, huj, rfl⟩ := int_at ey
      have hj' : j < Bs.length := by rw [List.length_map] at hj; exact hj
      have euj : Bs.getD j 0 = uj := by rw [List.getD_eq_getElem?_getD, huj]; rfl
      refine ⟨T2, _, rfl, .inl (.inl upd_same), rfl, _, _, rfl, _, _, rfl, rfl, ?_⟩
      have sT2 := same_upd (o := .tup [V.int (j : Int), V.int uj]) nT2
      have hp9 := sT2 _ _ hp8
      have s9 := s8.trans sT2
      generalize upd H8 T2 (.tup [V.int (j : Int), V.int uj]) = H9 at *
      have hij : i + j < As.length + Bs.length - 1 := by omega
      refine ⟨_, rfl, _, rfl, _, rfl, _, _, rfl, rfl, F, _, _, _, rfl, rfl, .inl (.inl hp9), by rw [← Int.natCast_add]; exact atI_nat (rowZ_get _ hij), ?_⟩
      refine ⟨_, rfl, _, rfl, _, _, rfl, rfl, .inl ⟨by omega, by omega⟩, _, _, rfl, rfl, ?_⟩
      refine ⟨_, rfl, _, rfl, _, rfl, _, _, rfl, rfl, F, _, _, i + j, rfl, rfl, hp9, ?_, ?_⟩
      · unfold ixN
        rw [if_pos (by omega), if_pos (by rw [rowZ_len]; omega), ← Int.natCast_add]
        rfl
      · refine ⟨_, _, rfl, same_over nFH s9, ?_⟩
        rw [upd_same]
        dsimp only
        rw [rowZ_set (g := cvF As Bs i (j + 1)) hij (by rw [cvF_step, if_pos rfl, ewi, euj]) fun k hk => by rw [cvF_step, if_neg hk]]
    · rintro σ HB ⟨v5, v6, rfl, sB, hFB⟩
      refine ⟨_, _, _, _, rfl, sB, ?_⟩
      rw [hFB, List.length_map]
      exact congrArg (fun l => some (HO.lst l)) (rowZ_congr fun k _ => cvF_next As Bs i k)
  · rintro σ HA ⟨v3, v4, v5, v6, rfl, sA, hFA⟩
    rw [List.length_map] at hFA
    refine ⟨_, rfl, q HA F sA nFH ?_⟩
    rw [hFA, rowZ_ints]
    rfl
def sp_wrapped : Sp := fun vs H Q _ => ∃ (x : Int) (d : Nat), vs = [.int x, .int d] ∧ 1 ≤ d ∧ d ≤ 24 ∧ Q (.int ((x + 2 ^ (d - 1)) % (2 * 2 ^ (d - 1)) - 2 ^ (d - 1))) H
theorem G_wrapped (T : Top K mg) : FnOk P w K mg base CX0 1 T.f_wrapped T.fd_wrapped ["number", "depth"] sp_wrapped := by
  refine T.F_wrapped.ok sc_wrapped (fun vs H Q E h => by obtain ⟨x, d, rfl, _⟩ := h; rfl) (fun cdv A outer s H vs Q E hr h => ?_)
  obtain ⟨x, d, rfl, d1, d2, q⟩ := h
  refine ⟨_, PSs.nox (pss_cons (ps_set (i := 2) sc_wrapped.nd rfl (by first | exact Or.inl rfl | exact Or.inr rfl) (pe_op op_shl pe_int (pe_op op_sub (pv 1) pe_int)))
  (pss_one (ps_ret (pe_op op_sub (pe_op op_mod (pe_op op_add (pv 0) (pv 2)) (pe_op op_mul pe_int (pv 2))) (pv 2))))), ?_⟩
  refine ⟨_, rfl, _, _, rfl, rfl, _, _, rfl, rfl, ⟨by omega, by omega, by decide⟩, ?_⟩
  have hp := half_pos d
  dsimp only
  rw [show ((d : Int) - 1).toNat = d - 1 by omega, Int.one_mul]
  generalize (2 : Int) ^ (d - 1) = h at *
  refine ⟨_, rfl, _, rfl, _, _, rfl, rfl, _, rfl, _, _, rfl, rfl, .inl ⟨by decide, by decide⟩, _, _, rfl, rfl, (by dsimp only; omega), _, rfl, _, _, rfl, rfl, ?_⟩
  exact q
def sp_told_at : Sp := fun vs H Q _ => ∃ (a b : Addr) (ws xs : List Int) (k : Nat), vs = [.ref a, .ref b, .int k] ∧ H a = some (.lst (ws.map V.int)) ∧ H b = some (.lst (xs.map V.int)) ∧ ws.length ≤ 100 ∧ (∀ w ∈ ws, w.natAbs ≤ 2 ^ 40) ∧ ws.length ≤ k ∧ k ≤ xs.length ∧ xs.length ≤ 1000 ∧ ∀ H', Same H H' → Q (.int (sumN ws.length fun i => ws.getD i 0 * xs.getD (k - 1 - i) 0)) H'
theorem G_told_at (T : Top K mg) : FnOk P w K mg base CX0 1 T.f_told_at T.fd_told_at ["weights", "row", "spot"] sp_told_at := by
  refine T.F_told_at.ok sc_told_at (fun vs H Q E h => by obtain ⟨a, b, ws, xs, k, rfl, _⟩ := h; rfl) (fun cdv A outer s H vs Q E hr h => ?_)
  obtain ⟨a, b, ws, xs, k, rfl, ha, hb, hz, hg, h1, h2, h3, q⟩ := h
  refine ⟨_, PSs.nox (pss_one (ps_ret (pe_callB (k_sum K rfl rfl) (by rfl) T.n_sum (by decide +kernel) (pa_cons (pe_lc (own := [("back", 3), ("weight", 4)]) (g := gTup K 2 (gCons (gName 3) (gCons (gName 4) (gNil)))) (tt := tYes) (by rfl) sc_told_at.nd (k_piE K rfl (by rfl) T.n_enumerate (pa_cons (pv 0) pa_nil)) (blkOk_by (own := [("back", 3), ("weight", 4)]) (N := N_told_at) (sc := defScope s_told_at) (by decide +kernel)) (fun _ _ _ _ _ => (k_pgT K rfl (by rfl) (pgs_cons (pg_name (i := 3) sc_told_at.nd rfl (by first | exact Or.inl rfl | exact Or.inr rfl)) (pgs_cons (pg_name (i := 4) sc_told_at.nd rfl (by first | exact Or.inl rfl | exact Or.inr rfl)) pgs_nil)))) (fun _ _ _ _ _ => pts_nil) (fun _ _ _ _ _ => (pe_op op_mul (pv 4) (pe_ix (k_ixL K rfl) (pv 1) (pe_op op_sub (pe_op op_sub (pv 2) pe_int) (pv 3)) (fun _ _ => rfl))))) pa_nil)))), ?_⟩
  refine ⟨_, rfl, a, _, rfl, .inl (.inl ha), fun D nD => ?_⟩
  have hxk : ∀ i, i < ws.length → (xs.map V.int)[k - 1 - i]? = some (.int (xs.getD (k - 1 - i) 0)) := fun i hi => by
    rw [ints_rowZ]
    exact rowZ_get (fun p => xs.getD p 0) (by omega)
  refine lc_dW (walk_enum (K := K) (a := a) (xs := ws.map V.int)) (Has.nil (H := H)) ((List.range ws.length).map fun i => some (PyData.int (ws.getD i 0 * xs.getD (k - 1 - i) 0))) nD (by rw [List.length_map, List.length_range, List.length_map]) (by rw [List.length_map]; exact small4 (by omega)) (fun H' s => .inl (.inl (s _ _ ha))) ?_ ?_
  · rintro i o H0 x H' hi ho s0 hS ⟨T1, y1, z1, rfl, nT, rfl, ex, ez⟩ Qt qt
    dsimp only at ex ez
    cases ex
    rw [List.length_map] at hi
    obtain ⟨wi, hwi, rfl⟩ := int_at ez
    have hwb := hg wi (List.mem_of_getElem? hwi)
    have ewi : ws.getD i 0 = wi := by rw [List.getD_eq_getElem?_getD, hwi]; rfl
    rw [List.getElem?_map, List.getElem?_range hi] at ho
    cases ho
    dsimp only at qt
    rw [ewi] at qt
    refine ⟨T1, _, rfl, .inl (.inl upd_same), rfl, _, _, rfl, _, _, rfl, rfl, rfl, ?_⟩
    unfold tYes
    dsimp only
    rw [if_pos (show true = true from rfl)]
    have sT := same_upd (o := .tup [V.int (i : Int), V.int wi]) nT
    refine ⟨_, rfl, _, rfl, _, rfl, _, _, rfl, rfl, _, rfl, _, _, rfl, rfl, b, _, _, _, rfl, rfl, .inl (.inl (sT _ _ (s0 _ _ hb))), by
      rw [show ((k : Int) - 1 - (i : Int)) = ((k - 1 - i : Nat) : Int) by omega]
      exact atI_nat (hxk i hi), _, _, rfl, rfl, .inl ⟨by omega, by omega⟩, ?_⟩
    exact qt _ _ sT (.int _)
  · intro H8 s8 hD8 hd8
    have ef : ((List.range ws.length).map fun i => some (PyData.int (ws.getD i 0 * xs.getD (k - 1 - i) 0))).filterMap id = ((List.range ws.length).map fun i => ws.getD i 0 * xs.getD (k - 1 - i) 0).map PyData.int := by
      generalize List.range ws.length = l
      induction l with
      | nil => rfl
      | cons i r ih => rw [List.map_cons, List.filterMap_cons, List.map_cons, List.map_cons, ← ih]; rfl
    rw [rs_nil, ef] at hd8
    obtain ⟨_, e, h8⟩ := Dt.intsE (ns := (List.range ws.length).map fun i => ws.getD i 0 * xs.getD (k - 1 - i) 0) hd8
    cases e
    refine ⟨D, _, rfl, .inl (.inl h8), ?_⟩
    rw [sum_range]
    exact q _ s8
end
end My

namespace My
open PySem PySem.Spec PyProof.Rows L2 Pre
/-! ### rows of rules, in a program: moved by a number of places -/
theorem joinS {b : Bool} {A : Prop} {R : L2.St → Hp → Prop} {σ : L2.St} {H : Hp} (Pv : L2.St → Hp → Prop) (cont : ∀ σ' H', Pv σ' H' → R σ' H') (h1 : b = true → (∀ σ' H', Pv σ' H' → R σ' H') → A) (h2 : b = false → Pv σ H) : if b = true then A else R σ H := by
  cases b with
  | true => exact h1 rfl cont
  | false => exact cont _ _ (h2 rfl)
/-- powers in a heap -/
def PowAt (N : Int) (ws : List Int) (p : Addr) (n : Nat) (H : Hp) : Prop := ∃ f : Nat → Int, H p = some (.lst (((List.range ws.length).map f).map V.int)) ∧ Mv N ws f n ∧ ∀ i, 0 ≤ f i ∧ f i < N
theorem PowAt.same {N : Int} {ws : List Int} {p : Addr} {n : Nat} {H H' : Hp} (s : Same H H') (h : PowAt N ws p n H) : PowAt N ws p n H' := by
  obtain ⟨f, e, r⟩ := h
  exact ⟨f, s _ _ e, r⟩
local macro_rules | `(tactic| walk_at "go") => `(tactic| repeat (first | (with_reducible first | refine iteT ?_ | refine iteF ?_ | refine iteNtt ?_ | refine iteNff ?_ | refine iteET (by omega) ?_ | refine iteEF (by omega) ?_ | refine iteENT (by omega) ?_ | refine iteENF (by omega) ?_ | refine iteDT (by omega) ?_ | refine iteDF (by omega) ?_ | refine iteNT (by omega) ?_ | refine iteNF (by omega) ?_) | refine ⟨_, rfl, ?_⟩ | refine ⟨_, _, rfl, rfl, ?_⟩ | refine ⟨_, _, rfl, ?_⟩ | refine ⟨rfl, ?_⟩ | refine .inl ⟨_, rfl, ?_⟩ | refine .inr ⟨_, rfl, ?_⟩))
local macro_rules | `(tactic| walk_at "b") => `(tactic| try dsimp (config := { proj := false, iota := false, eta := false, zeta := false }) only)
section
variable {P : Program} {w : World} {K : PySem.W.Frag} {mg : Str → Option Value} {base : Heap} [pf : Sup.PF P fileS]
def sp_moved_by : Sp := fun vs H Q _ => ∃ (a : Addr) (ws : List Int) (n : Nat) (N : Int), vs = [.ref a, .int n, .int N] ∧ H a = some (.lst (ws.map V.int)) ∧ GoodR ws ∧ 0 < N ∧ N ≤ 2 ^ 24 ∧ ∀ H' p, Same H H' → H p = none → PowAt N ws p n H' → Q (.ref p) H'
theorem G_moved_by (T : Top K mg) : FnOk P w K mg base CX0 2 T.f_moved_by T.fd_moved_by ["weights", "number", "size"] sp_moved_by := by
  refine T.F_moved_by.ok sc_moved_by (fun vs H Q E h => by obtain ⟨a, ws, n, N, rfl, _⟩ := h; rfl) (fun cdv A outer s H vs Q E hr h => ?_)
  obtain ⟨a, ws, n, N, rfl, ha, gw, hN, hN2, q⟩ := h
  refine ⟨_, PSs.nox (pss_cons (ps_par (by rfl) sc_moved_by.nd (i := 3) (j := 4) rfl rfl (by decide) rfl rfl (pa_cons (pe_call (G_reduced (P := P) T) (hr.mono (by decide)) (by rfl) T.g_reduced T.F_reduced.kp T.b_reduced .nil pass0 (pa_cons (pv 0) (pa_cons (pe_lst (pa_cons pe_int pa_nil)) (pa_cons (pv 2) pa_nil)))) (pa_cons (pe_call (G_reduced (P := P) T) (hr.mono (by decide)) (by rfl) T.g_reduced T.F_reduced.kp T.b_reduced .nil pass0 (pa_cons (pv 0) (pa_cons (pe_lst (pa_cons pe_int (pa_cons pe_int pa_nil))) (pa_cons (pv 2) pa_nil)))) pa_nil)) (by rfl))
  (pss_cons (ps_while PassesOwn.never (pt_cmpR op_gt (pv 1) pe_int (nomark _))
    (pss_cons (ps_if (pt_cmpR op_eq (pe_op op_mod (pv 1) pe_int) pe_int (nomark _))
    (pss_one (ps_set (i := 3) sc_moved_by.nd rfl (by first | exact Or.inl rfl | exact Or.inr rfl) (pe_call (G_reduced (P := P) T) (hr.mono (by decide)) (by rfl) T.g_reduced T.F_reduced.kp T.b_reduced .nil pass0 (pa_cons (pv 0) (pa_cons (pe_call (G_multiplied (P := P) T) (hr.mono (by decide)) (by rfl) T.g_multiplied T.F_multiplied.kp T.b_multiplied .nil pass0 (pa_cons (pv 3) (pa_cons (pv 4) pa_nil))) (pa_cons (pv 2) pa_nil))))))
    pss_nil)
  (pss_cons (ps_set (i := 4) sc_moved_by.nd rfl (by first | exact Or.inl rfl | exact Or.inr rfl) (pe_call (G_reduced (P := P) T) (hr.mono (by decide)) (by rfl) T.g_reduced T.F_reduced.kp T.b_reduced .nil pass0 (pa_cons (pv 0) (pa_cons (pe_call (G_multiplied (P := P) T) (hr.mono (by decide)) (by rfl) T.g_multiplied T.F_multiplied.kp T.b_multiplied .nil pass0 (pa_cons (pv 4) (pa_cons (pv 4) pa_nil))) (pa_cons (pv 2) pa_nil)))))
  (pss_one (ps_set (i := 1) sc_moved_by.nd rfl (by first | exact Or.inl rfl | exact Or.inr rfl) (pe_op op_fdivW (pv 1) pe_int))))))
  (pss_one (ps_ret (pv 3))))), ?_⟩
  have hws := gw.1
  refine ⟨_, rfl, (by show 1 ≤ sizeLine; decide), fun p1 np1 => ?_⟩
  obtain ⟨H1, e1, s1, hp1⟩ := fresh (.lst [V.int 1]) np1
  rw [e1]
  refine ⟨_, rfl, a, p1, ws, [1], N, rfl, s1 _ _ ha, hp1, gw, by decide, hN, hN2, fun H2 f0 s2 nf0 hf0 => ?_⟩
  refine ⟨_, rfl, (by show 2 ≤ sizeLine; decide), fun p2 np2 => ?_⟩
  obtain ⟨H3, e3, s3, hp2⟩ := fresh (.lst [V.int 0, .int 1]) np2
  rw [e3]
  refine ⟨_, rfl, a, p2, ws, [0, 1], N, rfl, s3 _ _ (s2 _ _ (s1 _ _ ha)), hp2, gw, by decide, hN, hN2, fun H4 g0 s4 _ hg0 => ?_⟩
  rw [rowZ_ints] at hf0 hg0
  have s04 := (s1.trans s2).trans (s3.trans s4)
  have F0 : PowAt N ws f0 0 H4 := ⟨_, s4 _ _ (s3 _ _ hf0), mv_one hN, red_range hN _⟩
  have G0 : PowAt N ws g0 1 H4 := ⟨_, hg0, mv_two hN, red_range hN _⟩
  refine ⟨_, _, rfl, ?_⟩
  refine ⟨fun μ σ H5 => ∃ (k A B : Nat) (p3 p4 : Addr), μ = k ∧ A + B * k = n ∧ σ = [some (.ref a), some (.int (k : Nat)), some (.int N), some (.ref p3), some (.ref p4)] ∧ Same H H5 ∧ H p3 = none ∧ PowAt N ws p3 A H5 ∧ PowAt N ws p4 B H5, ⟨n, n, 0, 1, f0, g0, rfl, by omega, rfl, s04, s1.free nf0, F0, G0⟩, ?_⟩
  rintro μ σ H5 ⟨k, A, B, p3, p4, rfl, eab, rfl, s5, n5, F5, G5⟩
  refine ⟨_, rfl, _, _, rfl, rfl, _, rfl, ?_⟩
  have ha5 := s5 _ _ ha
  have small : ∀ f : Nat → Int, (∀ i, 0 ≤ f i ∧ f i < N) → ∀ x ∈ (List.range ws.length).map f, x.natAbs ≤ 2 ^ 40 := fun f hf x hx => by
    obtain ⟨i, _, rfl⟩ := List.mem_map.mp hx
    have := hf i
    omega
  have len : ∀ f : Nat → Int, ((List.range ws.length).map f).length = ws.length := fun f => by rw [List.length_map, List.length_range]
  by_cases c : 0 < μ
  · refine iteDT (by omega) ?_
    refine ⟨fun σ H6 => ∃ (k A B : Nat) (p3 p4 : Addr), k = μ / 2 ∧ A + B * k = n ∧ σ = [some (.ref a), some (.int (k : Nat)), some (.int N), some (.ref p3), some (.ref p4)] ∧ Same H H6 ∧ H p3 = none ∧ PowAt N ws p3 A H6 ∧ PowAt N ws p4 B H6, fun σ' H' ⟨k, A', B', p3', p4', h1, h2, h3, h4⟩ => ⟨k, by omega, k, A', B', p3', p4', rfl, h2, h3, h4⟩, ?_⟩
    refine ⟨_, rfl, _, _, rfl, rfl, (by show (0 : Int) < 2; decide), rfl, _, rfl, ?_⟩
    refine joinS (fun σ H6 => ∃ (A' : Nat) (p3 : Addr), A' + B * 2 * (μ / 2) = n ∧ σ = [some (.ref a), some (.int (μ : Nat)), some (.int N), some (.ref p3), some (.ref p4)] ∧ Same H H6 ∧ H p3 = none ∧ PowAt N ws p3 A' H6 ∧ PowAt N ws p4 B H6) (fun σ H6 hp => ?_) (fun e k => ?_) (fun e => ?_)
    · obtain ⟨A', q3, eab', rfl, s6, n6, F6, ⟨g, hg, mg, rg⟩⟩ := hp
      refine ⟨_, rfl, _, rfl, _, rfl, p4, p4, _, _, rfl, hg, hg, by rw [len]; omega, by rw [len]; omega, small g rg, fun H7 m s7 nm hm => ?_⟩
      refine ⟨_, rfl, a, m, ws, _, N, rfl, s7 _ _ (s6 _ _ ha), hm, gw, by rw [mulL_len, len]; omega, hN, hN2, fun H8 r s8 _ hr => ?_⟩
      rw [rowZ_ints] at hr
      refine ⟨_, rfl, _, _, rfl, rfl, ⟨by decide, by decide +kernel⟩, ?_⟩
      refine ⟨μ / 2, A', B + B, q3, r, rfl, by rw [← eab', ← Nat.mul_two], by show _ = _; dsimp only; rw [show ((μ : Int) / 2) = ((μ / 2 : Nat) : Int) by omega]; rfl, (s6.trans s7).trans s8, n6, (F6.same s7).same s8, ⟨_, hr, mv_mul hN mg mg, red_range hN _⟩⟩
    · have e' : μ % 2 = 1 := by
        have := V.int.inj (of_decide_eq_true e)
        omega
      obtain ⟨f, hf, mf, rf⟩ := F5
      obtain ⟨g, hg, mg, rg⟩ := id G5
      refine ⟨_, rfl, _, rfl, _, rfl, p3, p4, _, _, rfl, hf, hg, by rw [len]; omega, by rw [len]; omega, small f rf, fun H7 m s7 nm hm => ?_⟩
      refine ⟨_, rfl, a, m, ws, _, N, rfl, s7 _ _ ha5, hm, gw, by rw [mulL_len, len, len]; omega, hN, hN2, fun H8 r s8 nr hr => ?_⟩
      rw [rowZ_ints] at hr
      refine k _ _ ⟨A + B, r, ?_, rfl, (s5.trans s7).trans s8, s5.free (s7.free nr), ⟨_, hr, mv_mul hN mf mg, red_range hN _⟩, (G5.same s7).same s8⟩
      rw [← eab, Nat.mul_assoc, show 2 * (μ / 2) = μ - 1 by omega]
      obtain ⟨t, rfl⟩ : ∃ t, μ = t + 1 := ⟨μ - 1, by omega⟩
      rw [Nat.add_sub_cancel, Nat.mul_add, Nat.mul_one]
      omega
    · have e' : ¬ μ % 2 = 1 := by
        intro z
        have := of_decide_eq_false e
        exact this (congrArg V.int (by omega))
      refine ⟨A, p3, ?_, rfl, s5, n5, F5, G5⟩
      rw [← eab, Nat.mul_assoc, show 2 * (μ / 2) = μ by omega]
  · refine iteDF (by omega) ?_
    obtain rfl : μ = 0 := by omega
    rw [Nat.mul_zero, Nat.add_zero] at eab
    exact ⟨_, rfl, q _ _ s5 n5 (eab ▸ F5)⟩
def sp_gone_on : Sp := fun vs H Q _ => ∃ (a b : Addr) (d : Nat) (ws fs : List Int) (m : Nat), vs = [.int d, .ref a, .ref b, .int m] ∧ H a = some (.lst (ws.map V.int)) ∧ H b = some (.lst (fs.map V.int)) ∧ GoodR ws ∧ fs.length = ws.length ∧ 1 ≤ d ∧ d ≤ 24 ∧ fs.length ≤ m ∧ m ≤ 900 ∧ ∀ H' p, Same H H' → H p = none → H' p = some (.lst (rowZ m (goR (2 ^ (d - 1)) ws fs))) → Q (.ref p) H'
theorem G_gone_on (T : Top K mg) : FnOk P w K mg base CX0 2 T.f_gone_on T.fd_gone_on ["depth", "weights", "firsts", "many"] sp_gone_on := by
  refine T.F_gone_on.ok sc_gone_on (fun vs H Q E h => by obtain ⟨a, b, d, ws, fs, m, rfl, _⟩ := h; rfl) (fun cdv A outer s H vs Q E hr h => ?_)
  obtain ⟨a, b, d, ws, fs, m, rfl, ha, hb, hg, hfl, d1, d2, hfm, hm, q⟩ := h
  refine ⟨_, PSs.nox (pss_cons (ps_set (i := 4) sc_gone_on.nd rfl (by first | exact Or.inl rfl | exact Or.inr rfl) (pe_callTy (k_listOf K rfl) (by rfl) T.n_list (by decide +kernel) (pa_cons (pe_slice (k_slL K rfl) (pv 2) po_none (po_some (pv 3))) pa_nil)))
  (pss_cons (ps_while PassesOwn.never (pt_cmpR op_lt (pe_callB (k_len K rfl) (by rfl) T.n_len (by decide +kernel) (pa_cons (pv 4) pa_nil)) (pv 3) (nomark _))
    (pss_one (ps_expr (pe_bm PySem.F.plainAttrs_list PySem.F.slot_list_append PySem.F.type_list_append mt_append (pv 4) (pa_cons (pe_call (G_wrapped (P := P) T) (hr.mono (by decide)) (by rfl) T.g_wrapped T.F_wrapped.kp T.b_wrapped .nil pass0 (pa_cons (pe_call (G_told_at (P := P) T) (hr.mono (by decide)) (by rfl) T.g_told_at T.F_told_at.kp T.b_told_at .nil pass0 (pa_cons (pv 1) (pa_cons (pv 4) (pa_cons (pe_callB (k_len K rfl) (by rfl) T.n_len (by decide +kernel) (pa_cons (pv 4) pa_nil)) pa_nil)))) (pa_cons (pv 0) pa_nil))) pa_nil)))))
  (pss_one (ps_ret (pv 4))))), ?_⟩
  have hws := hg.1
  have hh := half_pos d
  refine ⟨_, rfl, _, rfl, _, rfl, b, _, rfl, .inl (.inl hb), fun p0 np0 => ?_⟩
  rw [cut_take, List.take_of_length_le (by rw [List.length_map]; exact hfm)]
  obtain ⟨H0, e0, s0, hp0⟩ := fresh (.lst (fs.map V.int)) np0
  rw [e0]
  refine ⟨p0, _, rfl, .inl (.inl (.inl hp0)), fun p np => ?_⟩
  have npH : H p = none := s0.free np
  obtain ⟨H1, e1, s1, hp⟩ := fresh (.lst (fs.map V.int)) np
  rw [e1]
  have hfin := q
  generalize eh : (2 : Int) ^ (d - 1) = h at *
  refine ⟨fun μ σ H2 => ∃ k : Nat, μ + (fs.length + k) = m ∧ σ = [some (.int d), some (.ref a), some (.ref b), some (.int m), some (.ref p)] ∧ Same H H2 ∧ H2 p = some (.lst ((goL h ws fs k).map V.int)), ⟨m - fs.length, 0, by omega, rfl, s0.trans s1, hp⟩, ?_⟩
  rintro μ σ H2 ⟨k, eμ, rfl, s2, hp2⟩
  have hgl := goL_len h ws fs k
  refine ⟨_, rfl, p, _, rfl, .inl (.inl (.inl hp2)), _, rfl, _, _, rfl, rfl, _, rfl, ?_⟩
  rw [List.length_map, hgl]
  by_cases c : fs.length + k < m
  · refine iteDT (by omega) ?_
    refine ⟨fun σ H3 => ∃ k' : Nat, μ - 1 + (fs.length + k') = m ∧ σ = [some (.int d), some (.ref a), some (.ref b), some (.int m), some (.ref p)] ∧ Same H H3 ∧ H3 p = some (.lst ((goL h ws fs k').map V.int)), fun σ' H' hw => ⟨μ - 1, by omega, hw⟩, ?_⟩
    refine ⟨_, rfl, .inl ⟨rfl, _, .inl (.inl hp2)⟩, ?_⟩
    refine ⟨_, rfl, _, rfl, _, rfl, p, _, rfl, .inl (.inl (.inl hp2)), a, p, ws, goL h ws fs k, fs.length + k, by rw [List.length_map, hgl]; rfl, s2 _ _ ha, hp2, by omega, fun w hw => Nat.le_trans (hg.2 w hw) (by decide), by omega, by omega, by omega, fun H3 s3 => ?_⟩
    have hp3 := s3 _ _ hp2
    refine ⟨_, rfl, _, d, rfl, d1, d2, p, _, _, rfl, rfl, hp3, by rw [List.length_map, hgl]; exact small4 (by omega), ?_⟩
    refine ⟨k + 1, by omega, rfl, same_over npH (s2.trans s3), ?_⟩
    rw [upd_same, goL, List.map_append, eh]
    unfold nxtR
    rw [hgl]
    rfl
  · refine iteDF (by omega) ?_
    refine ⟨_, rfl, hfin _ p s2 npH ?_⟩
    have e : (goL h ws fs k).map V.int = rowZ (fs.length + k) (goR h ws fs) := by
      rw [ints_rowZ, hgl]
      exact rowZ_congr fun i hi => goL_at hi
    rw [hp2, e, show fs.length + k = m by omega]
def sp_dotted (K : PySem.W.Frag) : Sp := fun vs H Q _ => ∃ (a b : Addr) (ws xs : List Int), vs = [.ref a, .ref b] ∧ H a = some (.lst (ws.map V.int)) ∧ H b = some (.lst (xs.map V.int)) ∧ ws.length = xs.length ∧ ws.length ≤ 100 ∧ (∀ w ∈ ws, w.natAbs ≤ 2 ^ 40) ∧ ∀ H', Same H H' → Q (.int (sumN ws.length fun p => ws.getD p 0 * xs.getD p 0)) H'
theorem G_dotted (T : Top K mg) : FnOk P w K mg base CX0 1 T.f_dotted T.fd_dotted ["one", "other"] (sp_dotted K) := by
  refine T.F_dotted.ok sc_dotted (fun vs H Q E h => by obtain ⟨a, b, ws, xs, rfl, _⟩ := h; rfl) (fun cdv A outer s H vs Q E hr h => ?_)
  obtain ⟨a, b, ws, xs, rfl, ha, hb, hl, hz, hw, q⟩ := h
  refine ⟨_, PSs.nox (pss_one (ps_ret (pe_callB (k_sum K rfl rfl) (by rfl) T.n_sum (by decide +kernel) (pa_cons (pe_lc (own := [("number", 2), ("factor", 3)]) (g := gTup K 2 (gCons (gName 2) (gCons (gName 3) (gNil)))) (tt := tYes) (by rfl) sc_dotted.nd (k_piZL K rfl (by rfl) T.n_zip (pa_cons (pv 0) (pa_cons (pv 1) pa_nil)) (pk_cons pe_bl pk_nil)) (blkOk_by (own := [("number", 2), ("factor", 3)]) (N := N_dotted) (sc := defScope s_dotted) (by decide +kernel)) (fun _ _ _ _ _ => (k_pgT K rfl (by rfl) (pgs_cons (pg_name (i := 2) sc_dotted.nd rfl (by first | exact Or.inl rfl | exact Or.inr rfl)) (pgs_cons (pg_name (i := 3) sc_dotted.nd rfl (by first | exact Or.inl rfl | exact Or.inr rfl)) pgs_nil)))) (fun _ _ _ _ _ => pts_nil) (fun _ _ _ _ _ => (pe_op op_mul (pv 2) (pv 3)))) pa_nil)))), ?_⟩
  refine ⟨_, rfl, _, rfl, rfl, a, b, _, _, rfl, .inl (.inl ha), .inl (.inl hb), fun D nD => ?_⟩
  have hxi : ∀ i, i < xs.length → (xs.map V.int)[i]? = some (.int (xs.getD i 0)) := fun i hi => by
    rw [ints_rowZ]
    exact rowZ_get (fun p => xs.getD p 0) hi
  refine lc_dW (walk_zl (K := K) (a := a) (b := b) (xs := ws.map V.int) (ys := xs.map V.int) (by rw [List.length_map, List.length_map, hl])) (S := []) Has.nil ((List.range ws.length).map fun i => some (PyData.int (ws.getD i 0 * xs.getD i 0))) nD (by rw [List.length_map, List.length_range, List.length_map]) (by rw [List.length_map]; exact small4 (by omega)) (fun H' s => ⟨.inl (.inl (s _ _ ha)), .inl (.inl (s _ _ hb))⟩) ?_ ?_
  · rintro i o H0 x H' hi ho s0 hS ⟨T1, y1, z1, rfl, nT, rfl, ex, ez⟩ Qt qt
    rw [List.length_map] at hi
    obtain ⟨wi, hwi, rfl⟩ := int_at ex
    dsimp only at ez
    rw [hxi i (by omega)] at ez
    cases ez
    have hwb := hw wi (List.mem_of_getElem? hwi)
    have ewi : ws.getD i 0 = wi := by rw [List.getD_eq_getElem?_getD, hwi]; rfl
    rw [List.getElem?_map, List.getElem?_range hi] at ho
    cases ho
    dsimp only at qt
    rw [ewi] at qt
    refine ⟨T1, _, rfl, .inl (.inl upd_same), rfl, _, _, rfl, _, _, rfl, rfl, rfl, ?_⟩
    unfold tYes
    dsimp only
    rw [if_pos (show true = true from rfl)]
    refine ⟨_, rfl, _, rfl, _, _, rfl, rfl, .inl ⟨by omega, by omega⟩, ?_⟩
    exact qt _ _ (same_upd nT) (.int _)
  · intro H8 s8 hD8 hd8
    have ef : ((List.range ws.length).map fun i => some (PyData.int (ws.getD i 0 * xs.getD i 0))).filterMap id = ((List.range ws.length).map fun i => ws.getD i 0 * xs.getD i 0).map PyData.int := by
      generalize List.range ws.length = l
      induction l with
      | nil => rfl
      | cons i r ih => rw [List.map_cons, List.filterMap_cons, List.map_cons, List.map_cons, ← ih]; rfl
    rw [rs_nil, ef] at hd8
    obtain ⟨_, e, h8⟩ := Dt.intsE (ns := (List.range ws.length).map fun i => ws.getD i 0 * xs.getD i 0) hd8
    cases e
    refine ⟨D, _, rfl, .inl (.inl h8), ?_⟩
    rw [sum_range]
    exact q _ s8
end
end My

namespace My
open PySem PySem.Spec PyProof.Rows L2 Pre
/-! ### rows of rules, in a program: far samples -/
theorem cut_span {xs : List V} {a b : Nat} (h : a ≤ b) (hb : b ≤ xs.length) : cutV xs (some (a : Int)) (some (b : Int)) = (xs.drop a).take (b - a) := by
  unfold cutV
  rw [HT.sIx_nat, HT.sIx_nat, Nat.min_eq_left (by omega), Nat.min_eq_left (by omega)]
theorem row_span {n a b : Nat} (h : a ≤ b) (hb : b ≤ n) (f : Nat → Int) : ((rowZ n f).drop a).take (b - a) = ((List.range (b - a)).map fun p => f (a + p)).map V.int := by
  refine List.ext_getElem (by rw [List.length_take, List.length_drop, rowZ_len, List.length_map, List.length_map, List.length_range]; omega) fun i h1 h2 => ?_
  rw [List.length_map, List.length_map, List.length_range] at h2
  rw [List.getElem_take, List.getElem_drop, List.getElem_map, List.getElem_map, List.getElem_range]
  have := rowZ_get f (n := n) (i := a + i) (by omega)
  rw [List.getElem?_eq_getElem (by rw [rowZ_len]; omega)] at this
  exact Option.some.inj this
theorem rowZ_snoc (n : Nat) (f : Nat → Int) : rowZ n f ++ [V.int (f n)] = rowZ (n + 1) f := by
  unfold rowZ
  rw [List.range_succ, List.map_append]
  rfl
/-- samples of a depth -/
def Smp (d : Nat) (fs : List Int) : Prop := ∀ x ∈ fs, -(2 ^ (d - 1)) ≤ x ∧ x < 2 ^ (d - 1)
theorem far_eq {d : Nat} (d1 : 1 ≤ d) {ws fs : List Int} (hl : fs.length = ws.length) (hs : Smp d fs) {f : Nat → Int} {n : Nat} (hm : Mv (2 ^ d) ws f n) (i : Nat) :
    ((sumN ws.length fun p => f p * goR (2 ^ (d - 1)) ws fs (i + p)) + 2 ^ (d - 1)) % (2 * 2 ^ (d - 1)) - 2 ^ (d - 1) = goR (2 ^ (d - 1)) ws fs (i + n) := by
  refine wrap_eq (goR_range (half_pos d) hs _) ?_
  have hr := goR_fol (half_pos d) hl
  rw [two_half d1] at hr ⊢
  exact hm _ hr i
local macro_rules | `(tactic| walk_at "go") => `(tactic| repeat (first | (with_reducible first | refine iteT ?_ | refine iteF ?_ | refine iteNtt ?_ | refine iteNff ?_ | refine iteET (by omega) ?_ | refine iteEF (by omega) ?_ | refine iteENT (by omega) ?_ | refine iteENF (by omega) ?_ | refine iteDT (by omega) ?_ | refine iteDF (by omega) ?_ | refine iteNT (by omega) ?_ | refine iteNF (by omega) ?_) | refine ⟨_, rfl, ?_⟩ | refine ⟨_, _, rfl, rfl, ?_⟩ | refine ⟨_, _, rfl, ?_⟩ | refine ⟨rfl, ?_⟩ | refine .inl ⟨_, rfl, ?_⟩ | refine .inr ⟨_, rfl, ?_⟩))
local macro_rules | `(tactic| walk_at "b") => `(tactic| try dsimp (config := { proj := false, iota := false, eta := false, zeta := false }) only)
section
variable {P : Program} {w : World} {K : PySem.W.Frag} {mg : Str → Option Value} {base : Heap} [pf : Sup.PF P fileS]
def sp_state_at : Sp := fun vs H Q _ => ∃ (a b : Addr) (d : Nat) (ws fs : List Int) (n : Nat), vs = [.int d, .ref a, .ref b, .int n] ∧ H a = some (.lst (ws.map V.int)) ∧ H b = some (.lst (fs.map V.int)) ∧ GoodR ws ∧ fs.length = ws.length ∧ 1 ≤ d ∧ d ≤ 24 ∧ Smp d fs ∧ ∀ H' p, Same H H' → H' p = some (.lst (rowZ ws.length fun l => goR (2 ^ (d - 1)) ws fs (l + n))) → Q (.ref p) H'
theorem G_state_at (T : Top K mg) : FnOk P w K mg base CX0 3 T.f_state_at T.fd_state_at ["depth", "weights", "firsts", "number"] sp_state_at := by
  refine T.F_state_at.ok sc_state_at (fun vs H Q E h => by obtain ⟨a, b, d, ws, fs, n, rfl, _⟩ := h; rfl) (fun cdv A outer s H vs Q E hr h => ?_)
  obtain ⟨a, b, d, ws, fs, n, rfl, ha, hb, gw, hl, d1, d2, hs, q⟩ := h
  refine ⟨_, PSs.nox (pss_cons (ps_par (by rfl) sc_state_at.nd (i := 5) (j := 6) rfl rfl (by decide) rfl rfl (pa_cons (pe_callB (k_len K rfl) (by rfl) T.n_len (by decide +kernel) (pa_cons (pv 1) pa_nil)) (pa_cons (pe_lst pa_nil) pa_nil)) (by rfl))
  (pss_cons (ps_par (by rfl) sc_state_at.nd (i := 7) (j := 8) rfl rfl (by decide) rfl rfl (pa_cons (pe_call (G_moved_by (P := P) T) (hr.mono (by decide)) (by rfl) T.g_moved_by T.F_moved_by.kp T.b_moved_by .nil pass0 (pa_cons (pv 1) (pa_cons (pv 3) (pa_cons (pe_op op_shl pe_int (pv 0)) pa_nil)))) (pa_cons (pe_call (G_gone_on (P := P) T) (hr.mono (by decide)) (by rfl) T.g_gone_on T.F_gone_on.kp T.b_gone_on .nil pass0 (pa_cons (pv 0) (pa_cons (pv 1) (pa_cons (pv 2) (pa_cons (pe_op op_mul pe_int (pv 5)) pa_nil))))) pa_nil)) (by rfl))
  (pss_cons (ps_for PassesOwn.never rfl (pi_range1 (by rfl) T.n_range (pa_cons (pv 5) pa_nil)) (pg_name (i := 4) sc_state_at.nd rfl (by first | exact Or.inl rfl | exact Or.inr rfl))
    (pss_one (ps_expr (pe_bm PySem.F.plainAttrs_list PySem.F.slot_list_append PySem.F.type_list_append mt_append (pv 6) (pa_cons (pe_call (G_wrapped (P := P) T) (hr.mono (by decide)) (by rfl) T.g_wrapped T.F_wrapped.kp T.b_wrapped .nil pass0 (pa_cons (pe_call (G_dotted (P := P) T) (hr.mono (by decide)) (by rfl) T.g_dotted T.F_dotted.kp T.b_dotted .nil pass0 (pa_cons (pv 7) (pa_cons (pe_slice (k_slL K rfl) (pv 8) (po_some (pv 4)) (po_some (pe_op op_add (pv 4) (pv 5)))) pa_nil))) (pa_cons (pv 0) pa_nil))) pa_nil)))))
  (pss_one (ps_ret (pv 6)))))), ?_⟩
  have hws := gw.1
  have hpw : (0 : Int) < 1 * 2 ^ d := by rw [Int.one_mul]; exact Int.pow_pos (by decide)
  have hpl : (1 * 2 ^ d : Int) ≤ 2 ^ 24 := by rw [Int.one_mul]; exact pow_le_pow2 d2
  refine ⟨_, rfl, a, _, rfl, .inl (.inl (.inl ha)), Nat.zero_le _, fun F nF => ?_⟩
  rw [List.length_map]
  obtain ⟨H1, e1, s1, hF⟩ := fresh (.lst ([] : List V)) nF
  rw [e1]
  refine ⟨_, _, rfl, ?_⟩
  refine ⟨_, rfl, _, rfl, _, rfl, _, _, rfl, rfl, ⟨by omega, by omega, by decide⟩, a, ws, n, (1 * 2 ^ d : Int), rfl, s1 _ _ ha, gw, hpw, hpl, fun H2 p s2 np hP => ?_⟩
  refine ⟨_, rfl, _, rfl, _, rfl, _, rfl, _, _, rfl, rfl, .inl ⟨by decide, by decide⟩, a, b, d, ws, fs, 2 * ws.length, rfl, s2 _ _ (s1 _ _ ha), s2 _ _ (s1 _ _ hb), gw, hl, d1, d2, by omega, by omega, fun H3 r s3 nr hr => ?_⟩
  refine ⟨_, _, rfl, ?_⟩
  rw [Int.one_mul] at hP
  obtain ⟨f, hf, mf, rf⟩ := hP
  have hf3 := s3 _ _ hf
  have far := far_eq d1 hl hs mf
  have s03 := (s1.trans s2).trans s3
  have hF3 := s3 _ _ (s2 _ _ hF)
  have pF : p ≠ F := (ne_of_none hF np).symm
  have rF : r ≠ F := (ne_of_none (s2 _ _ hF) nr).symm
  refine ⟨_, rfl, _, rfl, by omega, by omega, ?_⟩
  rw [Int.toNat_natCast]
  generalize goR (2 ^ (d - 1)) ws fs = R at *
  refine for_range (lo := 0) (n := ws.length) (fun i σ HA => ∃ v8 : Option V, σ = [some (.int d), some (.ref a), some (.ref b), some (.int n), v8, some (.int (ws.length : Nat)), some (.ref F), some (.ref p), some (.ref r)] ∧ Same H HA ∧ HA F = some (.lst (rowZ i fun l => R (l + n))) ∧ HA p = some (.lst (((List.range ws.length).map f).map V.int)) ∧ HA r = some (.lst (rowZ (2 * ws.length) R))) ⟨none, rfl, s03, hF3, hf3, hr⟩ ?_ ?_
  · rintro i σ HA hi ⟨v8, rfl, sA, hFA, hpA, hrA⟩
    rw [Int.zero_add]
    refine ⟨_, rfl, .inl ⟨rfl, _, .inl (.inl hFA)⟩, _, rfl, _, rfl, _, rfl, _, rfl, _, rfl, _, rfl, _, _, rfl, rfl, _, rfl, r, _, rfl, .inl (.inl hrA), fun q1 nq1 => ?_⟩
    dsimp only
    rw [show ((i : Int) + (ws.length : Int)) = ((i + ws.length : Nat) : Int) by omega, cut_span (by omega) (by rw [rowZ_len]; omega), row_span (by omega) (by omega), show i + ws.length - i = ws.length by omega]
    obtain ⟨HB, eB, sB, hq1⟩ := fresh (.lst (((List.range ws.length).map fun p => R (i + p)).map V.int)) nq1
    rw [eB]
    have lf : ((List.range ws.length).map f).length = ws.length := by rw [List.length_map, List.length_range]
    have small : ∀ x ∈ (List.range ws.length).map f, x.natAbs ≤ 2 ^ 40 := fun x hx => by
      obtain ⟨j, _, rfl⟩ := List.mem_map.mp hx
      have := rf j
      have := pow_le_pow2 d2
      omega
    refine ⟨p, q1, _, _, rfl, sB _ _ hpA, hq1, by rw [lf, List.length_map, List.length_range], by omega, small, fun HC sC => ?_⟩
    rw [lf, sumN_congr (g := fun p => f p * R (i + p)) fun k hk => by rw [row_getD hk, row_getD hk]]
    have hFC := sC _ _ (sB _ _ hFA)
    refine ⟨_, rfl, _, d, rfl, d1, d2, F, _, _, rfl, rfl, hFC, by rw [rowZ_len]; exact small4 (by omega), ?_⟩
    rw [far i]
    have keep : ∀ {c : Addr} {o : HO}, c ≠ F → HA c = some o → upd HC F (.lst (rowZ i (fun l => R (l + n)) ++ [V.int (R (i + n))])) c = some o := fun nc h => by rw [upd_ne nc]; exact sC _ _ (sB _ _ h)
    refine ⟨_, rfl, same_over nF ((sA.trans sB).trans sC), ?_, keep pF hpA, keep rF hrA⟩
    rw [upd_same]
    exact congrArg (fun l => some (HO.lst l)) (rowZ_snoc i fun l => R (l + n))
  · rintro σ HA ⟨v8, rfl, sA, hFA, _⟩
    exact ⟨_, rfl, q HA F sA hFA⟩
end
end My

namespace My
open PySem PySem.Spec PyProof.Rows L2 Pre
/-! ### rows of rules, in a program: what is asked of firsts; samples anywhere -/
/-- a sample of a depth -/
def isS (d : Nat) : V → Bool
  | .int i => decide (-(2 ^ (d - 1)) ≤ i ∧ i < 2 ^ (d - 1))
  | _ => false
theorem Item.dp {K : PySem.W.Frag} {H : Hp} {x : V} (h : Item K H x) : ∃ d, Dp K H x d ∧ PyData.canLay0 d = true ∧ PyData.depth d ≤ 1 := by
  rcases h with ⟨i, rfl⟩ | ⟨_, _, d, a, b, c⟩
  · exact ⟨.int i, .int i, rfl, by rw [PyData.depth]; omega⟩
  · exact ⟨d, a, b, c⟩
theorem bad_dataP {K : PySem.W.Frag} {H : Hp} (p : V → Bool) : ∀ xs : List V, (∀ x ∈ xs, Item K H x) → ∃ ds, DpAll K H (xs.filter fun x => !p x) ds ∧ PyData.canLayAll0 ds = true ∧ PyData.depthAll ds ≤ 1 ∧ (ds = [] ↔ xs.all p = true)
  | [], _ => ⟨[], .nil, rfl, by rw [PyData.depthAll]; decide, by simp⟩
  | x :: r, h => by
    obtain ⟨ds, h1, h2, h3, h4⟩ := bad_dataP p r fun y hy => h y (List.mem_cons_of_mem _ hy)
    cases c : p x with
    | true => exact ⟨ds, by rw [List.filter_cons, if_neg (by rw [c]; decide)]; exact h1, h2, h3, by rw [h4, List.all_cons, c, Bool.true_and]⟩
    | false =>
      obtain ⟨d, a, b, e⟩ := (h x List.mem_cons_self).dp
      refine ⟨d :: ds, ?_, by rw [PyData.canLayAll0, h2, b]; rfl, by rw [PyData.depthAll]; omega, by simp [c]⟩
      rw [List.filter_cons, if_pos (by rw [c]; rfl)]
      exact .cons a h1
theorem all_smp {d : Nat} : ∀ {fs : List Int}, Smp d fs → (fs.map V.int).all (isS d) = true
  | [], _ => rfl
  | x :: r, h => by
    rw [List.map_cons, List.all_cons, all_smp (fs := r) fun y hy => h y (List.mem_cons_of_mem _ hy), Bool.and_true]
    exact decide_eq_true (h x List.mem_cons_self)
/-- what is no row of samples -/
def BadS (K : PySem.W.Frag) (H : Hp) (d : Nat) (v : V) : Prop := NoL K H v ∨ ∃ (a : Addr) (xs : List V), v = .ref a ∧ H a = some (.lst xs) ∧ xs.length ≤ 1000 ∧ (∀ x ∈ xs, Item K H x) ∧ xs.all (isS d) = false
theorem BadS.same {K : PySem.W.Frag} {H H' : Hp} {d : Nat} {v : V} (s : Same H H') (h : BadS K H d v) : BadS K H' d v := by
  rcases h with h | ⟨a, xs, e, h, l, r, k⟩
  · exact .inl (h.same s)
  · exact .inr ⟨a, xs, e, s _ _ h, l, fun x hx => (r x hx).same s, k⟩
/-- what are no firsts of a rule of m weights -/
def BadF (K : PySem.W.Frag) (H : Hp) (d m : Nat) (v : V) : Prop := BadS K H d v ∨ ∃ (a : Addr) (fs : List Int), v = .ref a ∧ H a = some (.lst (fs.map V.int)) ∧ Smp d fs ∧ fs.length ≤ 1000 ∧ fs.length ≠ m
theorem BadF.same {K : PySem.W.Frag} {H H' : Hp} {d m : Nat} {v : V} (s : Same H H') (h : BadF K H d m v) : BadF K H' d m v := by
  rcases h with h | ⟨a, xs, e, h, r⟩
  · exact .inl (h.same s)
  · exact .inr ⟨a, xs, e, s _ _ h, r⟩
local macro_rules | `(tactic| walk_at "go") => `(tactic| repeat (first | (with_reducible first | refine iteT ?_ | refine iteF ?_ | refine iteNtt ?_ | refine iteNff ?_ | refine iteET (by omega) ?_ | refine iteEF (by omega) ?_ | refine iteENT (by omega) ?_ | refine iteENF (by omega) ?_ | refine iteDT (by omega) ?_ | refine iteDF (by omega) ?_ | refine iteNT (by omega) ?_ | refine iteNF (by omega) ?_) | refine ⟨_, rfl, ?_⟩ | refine ⟨_, _, rfl, rfl, ?_⟩ | refine ⟨_, _, rfl, ?_⟩ | refine ⟨rfl, ?_⟩ | refine .inl ⟨_, rfl, ?_⟩ | refine .inr ⟨_, rfl, ?_⟩))
local macro_rules | `(tactic| walk_at "b") => `(tactic| try dsimp (config := { proj := false, iota := false, eta := false, zeta := false }) only)
section
variable {P : Program} {w : World} {K : PySem.W.Frag} {mg : Str → Option Value} {base : Heap} [pf : Sup.PF P fileS]
def sp_is_sample (K : PySem.W.Frag) : Sp := fun vs H Q _ => ∃ (v : V) (d : Nat) (b : Bool), vs = [v, .int d] ∧ 1 ≤ d ∧ d ≤ 24 ∧ NumV K H v (0 - 2 ^ (d - 1)) (some (2 ^ (d - 1) - 1)) b ∧ Q (.bl b) H
def sp_are_samples (K : PySem.W.Frag) : Sp := fun vs H Q _ => ∃ (v : V) (d : Nat), vs = [v, .int d] ∧ 1 ≤ d ∧ d ≤ 24 ∧ ((NoL K H v ∧ Q (.bl false) H) ∨ ∃ (a : Addr) (xs : List V), v = .ref a ∧ H a = some (.lst xs) ∧ xs.length ≤ 1000 ∧ (∀ x ∈ xs, Item K H x) ∧ ∀ H', Same H H' → Q (.bl (xs.all (isS d))) H')
def sp_check_firsts (K : PySem.W.Frag) (C : Addr) : Sp := fun vs H Q E => ∃ (d : Nat) (b : Addr) (ws : List Int) (v : V), vs = [.int d, .ref b, v] ∧ 1 ≤ d ∧ d ≤ 24 ∧ H b = some (.lst (ws.map V.int)) ∧
  ((∃ (a : Addr) (fs : List Int), v = .ref a ∧ H a = some (.lst (fs.map V.int)) ∧ Smp d fs ∧ fs.length = ws.length ∧ fs.length ≤ 1000 ∧ ∀ H', Same H H' → Q .non H') ∨
  (BadF K H d ws.length v ∧ ∀ H' dd, Same H H' → H' dd = none → E (.ref C) (some dd) (upd H' dd (.xd [("value", v)]))))
theorem goR_nil {h : Int} (hh : 0 < h) {fs : List Int} (e : fs.length = 0) (n : Nat) : goR h [] fs n = 0 := by
  obtain rfl := List.length_eq_zero_iff.mp e
  rw [← goL_at (k := n + 1) (by simp), goL, List.getD_eq_getElem?_getD, List.getElem?_append_right (by rw [goL_len]; simp), goL_len, show n - (([] : List Int).length + n) = 0 by simp]
  show nxtR h [] (goL h [] [] n) = 0
  unfold nxtR
  show ((0 : Int) + h) % (2 * h) - h = 0
  rw [Int.zero_add, Int.emod_eq_of_lt (by omega) (by omega), Int.sub_self]
def sp_sample_at (K : PySem.W.Frag) (CD CW CR CN : Addr) : Sp := fun vs H Q E => ∃ v u x y : V, vs = [v, u, x, y] ∧
  ((∃ d : Nat, v = .int d ∧ 1 ≤ d ∧ d ≤ 24 ∧
    ((∃ (a : Addr) (ws : List Int), u = .ref a ∧ H a = some (.lst (ws.map V.int)) ∧ GoodR ws ∧
      ((∃ (b : Addr) (fs : List Int), x = .ref b ∧ H b = some (.lst (fs.map V.int)) ∧ Smp d fs ∧ fs.length = ws.length ∧
        ((∃ n : Nat, y = .int n ∧ n ≤ 10 ^ 18 ∧ ∀ H', Same H H' → Q (.int (goR (2 ^ (d - 1)) ws fs n)) H') ∨
          (NumV K H y 0 (some (10 ^ 18)) false ∧ ∀ H' dd, Same H H' → H' dd = none → E (.ref CN) (some dd) (upd H' dd (.xd [("value", y)]))))) ∨
        (BadF K H d ws.length x ∧ ∀ H' dd, Same H H' → H' dd = none → E (.ref CR) (some dd) (upd H' dd (.xd [("value", x)]))))) ∨
      (BadR K H u ∧ ∀ H' dd, Same H H' → H' dd = none → E (.ref CW) (some dd) (upd H' dd (.xd [("value", u)]))))) ∨
   (NumV K H v 1 (some 24) false ∧ ∀ H' dd, Same H H' → H' dd = none → E (.ref CD) (some dd) (upd H' dd (.xd [("value", v)]))))
end
end My

namespace My
open PySem PySem.Spec PyProof.Rows L2 Pre
/-! ### the law's rows and rules -/
local macro_rules | `(tactic| walk_at "go") => `(tactic| repeat (first | (with_reducible first | refine iteT ?_ | refine iteF ?_ | refine iteNtt ?_ | refine iteNff ?_ | refine iteET (by omega) ?_ | refine iteEF (by omega) ?_ | refine iteENT (by omega) ?_ | refine iteENF (by omega) ?_ | refine iteDT (by omega) ?_ | refine iteDF (by omega) ?_ | refine iteNT (by omega) ?_ | refine iteNF (by omega) ?_) | refine ⟨_, rfl, ?_⟩ | refine ⟨_, _, rfl, rfl, ?_⟩ | refine ⟨_, _, rfl, ?_⟩ | refine ⟨rfl, ?_⟩ | refine .inl ⟨_, rfl, ?_⟩ | refine .inr ⟨_, rfl, ?_⟩))
local macro_rules | `(tactic| walk_at "b") => `(tactic| try dsimp (config := { proj := false, iota := false, eta := false, zeta := false }) only)
section
variable {P : Program} {w : World} {K : PySem.W.Frag} {mg : Str → Option Value} {base : Heap} [pf : Sup.PF P fileS]
def sp_law_row : Sp := fun vs H Q _ => ∃ (g : Addr) (n d m : Nat), vs = [.ref g, .int d, .int m] ∧ GenAt H g n ∧ n ≤ 10 ^ 9 ∧ 1 ≤ d ∧ d ≤ 24 ∧ m ≤ 10 ∧ ∀ (H' : Hp) (p : Addr) (ys : List Int), But g H H' → H p = none → p ≠ g → GenAt H' g (n + 1000) → H' p = some (.lst (ys.map V.int)) → ys.length = m → Smp d ys → Q (.ref p) H'
def sp_law_weights : Sp := fun vs H Q _ => ∃ (g : Addr) (n m : Nat), vs = [.ref g, .int m] ∧ GenAt H g n ∧ n ≤ 10 ^ 9 ∧ m ≤ 8 ∧ ∀ (H' : Hp) (p : Addr) (ys : List Int), But g H H' → H p = none → p ≠ g → GenAt H' g (n + 3000) → H' p = some (.lst (ys.map V.int)) → GoodR ys → ys.length = m → Q (.ref p) H'
theorem G_law_weights (T : Top K mg) : FnOk P w K mg base CX0 3 T.f_law_weights T.fd_law_weights ["_law_generator_here", "_law_many"] sp_law_weights := by
  refine T.F_law_weights.ok sc_law_weights (fun vs H Q E h => by obtain ⟨g, n, m, rfl, _⟩ := h; rfl) (fun cdv A outer s H vs Q E hr h => ?_)
  obtain ⟨g, n, m, rfl, hG, hn, hm, q⟩ := h
  refine ⟨_, PSs.nox (pss_cons (ps_set (i := 2) sc_law_weights.nd rfl (by first | exact Or.inl rfl | exact Or.inr rfl) (pe_lst pa_nil))
  (pss_cons (ps_for PassesOwn.never rfl (pi_range1 (by rfl) T.n_range (pa_cons (pv 1) pa_nil)) (pg_name (i := 3) sc_law_weights.nd rfl (by first | exact Or.inl rfl | exact Or.inr rfl))
    (pss_cons (ps_par (by rfl) sc_law_weights.nd (i := 4) (j := 5) rfl rfl (by decide) rfl rfl (pa_cons (pe_op op_sub (pe_call (G_law_random (P := P) T) (hr.mono (by decide)) (by rfl) T.g_law_random T.F_law_random.kp T.b_law_random .nil pass0 (pa_cons (pv 0) (pa_cons pe_int pa_nil))) pe_int) (pa_cons (pe_op op_sub (pe_call (G_law_random (P := P) T) (hr.mono (by decide)) (by rfl) T.g_law_random T.F_law_random.kp T.b_law_random .nil pass0 (pa_cons (pv 0) (pa_cons pe_int pa_nil))) pe_int) pa_nil)) (by rfl))
  (pss_one (ps_expr (pe_bm PySem.F.plainAttrs_list PySem.F.slot_list_append PySem.F.type_list_append mt_append (pv 2) (pa_cons (pe_ifExp (pt_cmpR op_eq (pe_call (G_law_random (P := P) T) (hr.mono (by decide)) (by rfl) T.g_law_random T.F_law_random.kp T.b_law_random .nil pass0 (pa_cons (pv 0) (pa_cons pe_int pa_nil))) pe_int (nomark _)) (pv 5) (pv 4)) pa_nil))))))
  (pss_one (ps_ret (pv 2))))), ?_⟩
  refine ⟨Nat.zero_le _, fun p np => ?_⟩
  obtain ⟨H1, e1, s1, hp1⟩ := fresh (.lst ([] : List V)) np
  rw [e1]
  have npg : p ≠ g := hG.ne np
  refine ⟨_, rfl, _, rfl, by omega, by omega, ?_⟩
  rw [Int.toNat_natCast]
  refine for_range (lo := 0) (n := m) (fun i σ H2 => ∃ (v3 v4 v5 : Option V) (ys : List Int), σ = [some (.ref g), some (.int m), some (.ref p), v3, v4, v5] ∧ But g H H2 ∧ GenAt H2 g (n + 300 * i) ∧ H2 p = some (.lst (ys.map V.int)) ∧ ys.length = i ∧ ∀ y ∈ ys, y.natAbs ≤ 32768) ⟨none, none, none, [], rfl, But.of s1, hG.same s1, hp1, rfl, fun _ h => nomatch h⟩ ?_ ?_
  · rintro i σ H2 hi ⟨v3, v4, v5, ys, rfl, b2, g2, hp2, hl, hb⟩
    refine ⟨_, rfl, g, _, _, rfl, g2, by omega, by decide, by decide +kernel, fun x H3 x0 x1 g3 b3 => ?_⟩
    refine ⟨_, _, rfl, rfl, _, rfl, g, _, _, rfl, g3, by omega, by decide, by decide +kernel, fun y H4 y0 y1 g4 b4 => ?_⟩
    refine ⟨_, _, rfl, rfl, _, _, rfl, ?_⟩
    have hp4 := b4 _ _ npg (b3 _ _ npg hp2)
    refine ⟨_, rfl, .inl ⟨rfl, _, .inl (.inl hp4)⟩, _, rfl, g, _, _, rfl, g4, by omega, by decide, by decide +kernel, fun z H5 z0 z1 g5 b5 => ?_⟩
    have hp5 := b5 _ _ npg hp4
    refine ⟨rfl, _, rfl, ?_⟩
    have b25 := ((b2.trans b3).trans b4).trans b5
    have fin : ∀ v : Int, v.natAbs ≤ 32768 → ∃ (v3 v4 v5 : Option V) (ys' : List Int), [some (V.ref g), some (.int m), some (.ref p), some (.int (0 + (i : Int))), some (.int (x - 2)), some (.int (y - 32768))] = [some (.ref g), some (.int m), some (.ref p), v3, v4, v5] ∧ But g H (upd H5 p (.lst (ys.map V.int ++ [V.int v]))) ∧ GenAt (upd H5 p (.lst (ys.map V.int ++ [V.int v]))) g (n + 300 * (i + 1)) ∧ (upd H5 p (.lst (ys.map V.int ++ [V.int v]))) p = some (.lst (ys'.map V.int)) ∧ ys'.length = i + 1 ∧ ∀ y ∈ ys', y.natAbs ≤ 32768 := fun v hv => by
      refine ⟨_, _, _, ys ++ [v], rfl, ?_, ?_, ?_, by rw [List.length_append, hl]; rfl, fun u hu => ?_⟩
      · intro c o nc hc
        rw [upd_ne (ne_of_none hc np)]
        exact b25 c o nc hc
      · obtain ⟨x', y', z', e1, e2, e3⟩ := g5
        exact ⟨x', y', z', by rw [upd_ne npg.symm]; exact e1, e2, by omega⟩
      · rw [upd_same, List.map_append]
        rfl
      · rcases List.mem_append.mp hu with h | h
        · exact hb u h
        · rw [List.mem_singleton.mp h]; exact hv
    by_cases hz0 : z = 0
    · refine iteET hz0 ?_
      exact ⟨_, rfl, p, _, _, rfl, rfl, hp5, by rw [List.length_map, hl]; exact small4 (by omega), fin _ (by omega)⟩
    · refine iteEF hz0 ?_
      exact ⟨_, rfl, p, _, _, rfl, rfl, hp5, by rw [List.length_map, hl]; exact small4 (by omega), fin _ (by omega)⟩
  · rintro σ H2 ⟨v3, v4, v5, ys, rfl, b2, g2, hp2, hl, hb⟩
    exact ⟨_, rfl, q H2 p ys b2 np npg (g2.mono (by omega)) hp2 ⟨by omega, hb⟩ hl⟩
def sp_law_sum : Sp := fun vs H Q _ => ∃ (a b : Addr) (ws xs : List Int) (k : Nat), vs = [.ref a, .ref b, .int k] ∧ H a = some (.lst (ws.map V.int)) ∧ H b = some (.lst (xs.map V.int)) ∧ ws.length ≤ 100 ∧ (∀ w ∈ ws, w.natAbs ≤ 2 ^ 40) ∧ ws.length ≤ k ∧ k ≤ xs.length ∧ xs.length ≤ 1000 ∧ ∀ H', Same H H' → Q (.int (sumN ws.length fun i => ws.getD i 0 * xs.getD (k - 1 - i) 0)) H'
theorem G_law_sum (T : Top K mg) : FnOk P w K mg base CX0 1 T.f_law_sum T.fd_law_sum ["_law_weights_here", "_law_row", "_law_spot"] sp_law_sum := by
  refine T.F_law_sum.ok sc_law_sum (fun vs H Q E h => by obtain ⟨a, b, ws, xs, k, rfl, _⟩ := h; rfl) (fun cdv A outer s H vs Q E hr h => ?_)
  obtain ⟨a, b, ws, xs, k, rfl, ha, hb, hws, hg, h1, h2, h3, q⟩ := h
  refine ⟨_, PSs.nox (pss_one (ps_ret (pe_callB (k_sum K rfl rfl) (by rfl) T.n_sum (by decide +kernel) (pa_cons (pe_lc (own := [("_law_back", 3)]) (g := gName 3) (tt := tYes) (by rfl) sc_law_sum.nd (pi_range1 (by rfl) T.n_range (pa_cons (pe_callB (k_len K rfl) (by rfl) T.n_len (by decide +kernel) (pa_cons (pv 0) pa_nil)) pa_nil)) (blkOk_by (own := [("_law_back", 3)]) (N := N_law_sum) (sc := defScope s_law_sum) (by decide +kernel)) (fun _ _ _ _ _ => (pg_name (i := 3) sc_law_sum.nd rfl (by first | exact Or.inl rfl | exact Or.inr rfl))) (fun _ _ _ _ _ => pts_nil) (fun _ _ _ _ _ => (pe_op op_mul (pe_ix (k_ixL K rfl) (pv 0) (pv 3) (fun _ _ => rfl)) (pe_ix (k_ixL K rfl) (pv 1) (pe_op op_sub (pe_op op_sub (pv 2) pe_int) (pv 3)) (fun _ _ => rfl))))) pa_nil)))), ?_⟩
  refine ⟨_, rfl, a, _, rfl, .inl (.inl (.inl ha)), ?_⟩
  rw [List.length_map]
  refine ⟨_, rfl, by omega, by omega, fun D nD => ?_⟩
  rw [Int.toNat_natCast]
  refine lc_mapR (lo := 0) (n := ws.length) (((List.range ws.length).map fun i => ws.getD i 0 * xs.getD (k - 1 - i) 0).map V.int) nD (by rw [List.length_map, List.length_map, List.length_range]) (small4 (by omega)) (fun x => rfl) ?_ ?_
  · intro i y H' hi hy s Qt qt
    rw [List.getElem?_map, List.getElem?_map, List.getElem?_range hi] at hy
    cases hy
    rw [Int.zero_add]
    have hwi : (ws.map V.int)[i]? = some (.int (ws.getD i 0)) := by rw [ints_rowZ]; exact rowZ_get (fun p => ws.getD p 0) hi
    have hxi : (xs.map V.int)[k - 1 - i]? = some (.int (xs.getD (k - 1 - i) 0)) := by rw [ints_rowZ]; exact rowZ_get (fun p => xs.getD p 0) (by omega)
    have hb8 : (ws.getD i 0).natAbs ≤ 2 ^ 40 := by
      rw [List.getD_eq_getElem?_getD, List.getElem?_eq_getElem hi]
      exact hg _ (List.getElem_mem hi)
    refine ⟨_, rfl, _, rfl, a, _, _, _, rfl, rfl, .inl (.inl (s _ _ ha)), atI_nat hwi, ?_⟩
    refine ⟨_, rfl, _, rfl, _, _, rfl, rfl, _, rfl, _, _, rfl, rfl, b, _, _, _, rfl, rfl, .inl (.inl (s _ _ hb)), by
      rw [show ((k : Int) - 1 - (i : Int)) = ((k - 1 - i : Nat) : Int) by omega]
      exact atI_nat hxi, _, _, rfl, rfl, .inl ⟨by omega, by omega⟩, ?_⟩
    exact qt _ (Same.refl _)
  · intro H1 s1 hD
    refine ⟨D, _, rfl, .inl (.inl hD), ?_⟩
    rw [sum_range]
    exact q _ s1
def sp_law_gone : Sp := fun vs H Q _ => ∃ (a b : Addr) (d : Nat) (ws fs : List Int) (m : Nat), vs = [.int d, .ref a, .ref b, .int m] ∧ H a = some (.lst (ws.map V.int)) ∧ H b = some (.lst (fs.map V.int)) ∧ GoodR ws ∧ fs.length = ws.length ∧ 1 ≤ d ∧ d ≤ 24 ∧ fs.length ≤ m ∧ m ≤ 900 ∧ ∀ H' p, Same H H' → H p = none → H' p = some (.lst (rowZ m (goR (2 ^ (d - 1)) ws fs))) → Q (.ref p) H'
theorem G_law_gone (T : Top K mg) : FnOk P w K mg base CX0 2 T.f_law_gone T.fd_law_gone ["_law_depth", "_law_weights_here", "_law_firsts", "_law_many"] sp_law_gone := by
  refine T.F_law_gone.ok sc_law_gone (fun vs H Q E h => by obtain ⟨a, b, d, ws, fs, m, rfl, _⟩ := h; rfl) (fun cdv A outer s H vs Q E hr h => ?_)
  obtain ⟨a, b, d, ws, fs, m, rfl, ha, hb, hg, hfl, d1, d2, hfm, hm, q⟩ := h
  refine ⟨_, PSs.nox (pss_cons (ps_par (by rfl) sc_law_gone.nd (i := 4) (j := 5) rfl rfl (by decide) rfl rfl (pa_cons (pe_callTy (k_listOf K rfl) (by rfl) T.n_list (by decide +kernel) (pa_cons (pv 2) pa_nil)) (pa_cons (pe_op op_shl pe_int (pe_op op_sub (pv 0) pe_int)) pa_nil)) (by rfl))
  (pss_cons (ps_while PassesOwn.never (pt_cmpR op_lt (pe_callB (k_len K rfl) (by rfl) T.n_len (by decide +kernel) (pa_cons (pv 4) pa_nil)) (pv 3) (nomark _))
    (pss_one (ps_expr (pe_bm PySem.F.plainAttrs_list PySem.F.slot_list_append PySem.F.type_list_append mt_append (pv 4) (pa_cons (pe_op op_sub (pe_op op_mod (pe_callTy call_int1 (by rfl) T.n_int (by decide +kernel) (pa_cons (pe_op op_add (pe_call (G_law_sum (P := P) T) (hr.mono (by decide)) (by rfl) T.g_law_sum T.F_law_sum.kp T.b_law_sum .nil pass0 (pa_cons (pv 1) (pa_cons (pv 4) (pa_cons (pe_callB (k_len K rfl) (by rfl) T.n_len (by decide +kernel) (pa_cons (pv 4) pa_nil)) pa_nil)))) (pv 5)) pa_nil)) (pe_op op_mul pe_int (pv 5))) (pv 5)) pa_nil)))))
  (pss_one (ps_ret (pe_slice (k_slL K rfl) (pv 4) po_none (po_some (pv 3))))))), ?_⟩
  have hws := hg.1
  have hh := half_pos d
  refine ⟨_, rfl, b, _, rfl, .inl (.inl (.inl hb)), fun p np => ?_⟩
  obtain ⟨H1, e1, s1, hp⟩ := fresh (.lst (fs.map V.int)) np
  rw [e1]
  refine ⟨_, rfl, _, _, rfl, rfl, _, _, rfl, rfl, ⟨by omega, by omega, by decide⟩, ?_⟩
  refine ⟨_, _, rfl, ?_⟩
  dsimp only
  rw [show ((d : Int) - 1).toNat = d - 1 by omega, Int.one_mul]
  generalize (2 : Int) ^ (d - 1) = h at *
  refine ⟨fun μ σ H2 => ∃ k : Nat, μ + (fs.length + k) = m ∧ σ = [some (.int d), some (.ref a), some (.ref b), some (.int m), some (.ref p), some (.int h)] ∧ Same H H2 ∧ H2 p = some (.lst ((goL h ws fs k).map V.int)), ⟨m - fs.length, 0, by omega, rfl, s1, hp⟩, ?_⟩
  rintro μ σ H2 ⟨k, eμ, rfl, s2, hp2⟩
  have hgl := goL_len h ws fs k
  refine ⟨_, rfl, p, _, rfl, .inl (.inl (.inl hp2)), _, rfl, _, _, rfl, rfl, _, rfl, ?_⟩
  rw [List.length_map, hgl]
  by_cases c : fs.length + k < m
  · refine iteDT (by omega) ?_
    refine ⟨fun σ H3 => ∃ k' : Nat, μ - 1 + (fs.length + k') = m ∧ σ = [some (.int d), some (.ref a), some (.ref b), some (.int m), some (.ref p), some (.int h)] ∧ Same H H3 ∧ H3 p = some (.lst ((goL h ws fs k').map V.int)), fun σ' H' hw => ⟨μ - 1, by omega, hw⟩, ?_⟩
    refine ⟨_, rfl, .inl ⟨rfl, _, .inl (.inl hp2)⟩, ?_⟩
    refine ⟨_, rfl, _, rfl, _, rfl, p, _, rfl, .inl (.inl (.inl hp2)), a, p, ws, goL h ws fs k, fs.length + k, by rw [List.length_map, hgl]; rfl, s2 _ _ ha, hp2, by omega, fun w hw => Nat.le_trans (hg.2 w hw) (by decide), by omega, by omega, by omega, fun H3 s3 => ?_⟩
    have hp3 := s3 _ _ hp2
    refine ⟨_, rfl, _, _, rfl, rfl, .inl ⟨_, rfl, ?_⟩⟩
    refine ⟨_, rfl, _, _, rfl, rfl, .inl ⟨by decide, by decide⟩, _, _, rfl, rfl, (by dsimp only; omega), _, rfl, _, _, rfl, rfl, p, _, _, rfl, rfl, hp3, by rw [List.length_map, hgl]; exact small4 (by omega), ?_⟩
    refine ⟨k + 1, by omega, rfl, same_over np (s2.trans s3), ?_⟩
    rw [upd_same, goL, List.map_append]
    unfold nxtR
    rw [hgl]
    rfl
  · refine iteDF (by omega) ?_
    refine ⟨_, rfl, _, rfl, _, rfl, p, _, rfl, .inl (.inl hp2), fun p2 np2 => ?_⟩
    refine q _ p2 (s2.trans (same_upd np2)) (s2.free np2) ?_
    rw [upd_same, cut_take, show m = fs.length + k by omega]
    have e : (goL h ws fs k).map V.int = rowZ (fs.length + k) (goR h ws fs) := by
      rw [ints_rowZ, hgl]
      exact rowZ_congr fun i hi => goL_at hi
    rw [e, rowZ_take (Nat.le_refl _)]
end
end My

namespace My
/-! ### two rows: where they are unlike for ever -/
/-- the last odd weight -/
theorem odd_top (ws : List Int) : ∃ n, n ≤ ws.length ∧ (∀ b, n ≤ b → b < ws.length → 2 ∣ ws.getD b 0) ∧ (0 < n → ¬ 2 ∣ ws.getD (n - 1) 0) := by
  suffices h : ∀ m, m ≤ ws.length → (∀ b, m ≤ b → b < ws.length → 2 ∣ ws.getD b 0) → ∃ n, n ≤ ws.length ∧ (∀ b, n ≤ b → b < ws.length → 2 ∣ ws.getD b 0) ∧ (0 < n → ¬ 2 ∣ ws.getD (n - 1) 0) from h ws.length (Nat.le_refl _) fun b h1 h2 => by omega
  intro m
  induction m with
  | zero => intro h1 h2; exact ⟨0, h1, h2, fun h => absurd h (by decide)⟩
  | succ m ih =>
    intro h1 h2
    by_cases c : 2 ∣ ws.getD m 0
    · exact ih (by omega) fun b h3 h4 => by
        by_cases e : b = m
        · rw [e]; exact c
        · exact h2 b (by omega) h4
    · exact ⟨m + 1, h1, h2, fun _ => c⟩
theorem Fol.mono {N M : Int} {ws : List Int} {r : Nat → Int} (h : Fol M ws r) (d : N ∣ M) : Fol N ws r := fun i => Int.dvd_trans d (h i)
theorem odd_cancel {a b : Int} (h : 2 ∣ a * b) (ha : ¬ 2 ∣ a) : 2 ∣ b := by
  have e : a = 2 * (a / 2) + 1 := by omega
  rw [e, Int.add_mul, Int.one_mul, Int.mul_assoc] at h
  have := Int.dvd_mul_right 2 (a / 2 * b)
  exact (Int.dvd_iff_dvd_of_dvd_add h).mp this
theorem dvd_sub_sum {N a b c : Int} (h1 : N ∣ a) (h2 : N ∣ a - b) : N ∣ b := by
  have := Int.dvd_sub h1 h2
  rwa [show a - (a - b) = b by omega] at this
theorem back_one {ws : List Int} {n : Nat} (hn : n ≤ ws.length) (he : ∀ b, n ≤ b → b < ws.length → 2 ∣ ws.getD b 0) (ho : 0 < n → ¬ 2 ∣ ws.getD (n - 1) 0) {r : Nat → Int} (hr : Fol 2 ws r) {far : Nat} (hz : ∀ i, far ≤ i → 2 ∣ r i) (i : Nat) (hi : ws.length - n ≤ i) : 2 ∣ r i := by
  by_cases c0 : n = 0
  · have h := hr (i - ws.length)
    rw [show i - ws.length + ws.length = i by omega] at h
    have h2 : (2 : Int) ∣ sumN ws.length fun b => ws.getD b 0 * r (i - 1 - b) := sumN_dvd fun b hb => Int.dvd_mul_of_dvd_left (he b (by omega) hb)
    have := Int.dvd_add h h2
    rwa [Int.sub_add_cancel] at this
  · suffices h : ∀ m i, ws.length - n ≤ i → far ≤ i + m → 2 ∣ r i from h far i hi (by omega)
    intro m
    induction m with
    | zero => intro i _ h; exact hz i h
    | succ m ih =>
      intro i h1 h2
      have h := hr (i - (ws.length - n))
      rw [show i - (ws.length - n) + ws.length = i + n by omega] at h
      have h3 : (2 : Int) ∣ sumN ws.length fun b => ws.getD b 0 * r (i + n - 1 - b) := dvd_sub_sum (c := 0) (ih (i + n) (by omega) (by omega)) h
      have h4 : (2 : Int) ∣ sumN n fun b => ws.getD b 0 * r (i + n - 1 - b) := by
        have e := sumN_split n (ws.length - n) fun b => ws.getD b 0 * r (i + n - 1 - b)
        rw [show n + (ws.length - n) = ws.length by omega] at e
        rw [e] at h3
        have h5 : (2 : Int) ∣ sumN (ws.length - n) fun b => ws.getD (n + b) 0 * r (i + n - 1 - (n + b)) := sumN_dvd fun b hb => Int.dvd_mul_of_dvd_left (he (n + b) (by omega) (by omega))
        have := Int.dvd_sub h3 h5
        rwa [Int.add_sub_cancel] at this
      obtain ⟨t, rfl⟩ : ∃ t, n = t + 1 := ⟨n - 1, by omega⟩
      rw [sumN] at h4
      have h5 : (2 : Int) ∣ sumN t fun b => ws.getD b 0 * r (i + (t + 1) - 1 - b) := sumN_dvd fun b hb => Int.dvd_mul_of_dvd_right (ih _ (by omega) (by omega))
      have h6 := Int.dvd_sub h4 h5
      rw [show ∀ a b : Int, a + b - a = b from fun a b => by omega, show i + (t + 1) - 1 - t = i by omega] at h6
      exact odd_cancel h6 (ho (by omega))
/-- what is nothing from somewhere on is nothing from so many places on -/
theorem back_zero {ws : List Int} {n : Nat} (hn : n ≤ ws.length) (he : ∀ b, n ≤ b → b < ws.length → 2 ∣ ws.getD b 0) (ho : 0 < n → ¬ 2 ∣ ws.getD (n - 1) 0) : ∀ (d : Nat) {r : Nat → Int}, Fol (2 ^ d) ws r → ∀ {far : Nat}, (∀ i, far ≤ i → (2 ^ d : Int) ∣ r i) → ∀ i, (ws.length - n) * d ≤ i → (2 ^ d : Int) ∣ r i
  | 0, r, _, far, _, i, _ => by rw [Int.pow_zero]; exact Int.one_dvd _
  | d + 1, r, hr, far, hz, i, hi => by
    have e2 : (2 : Int) ^ (d + 1) = 2 ^ d * 2 := Int.pow_succ _ _
    have dd : (2 ^ d : Int) ∣ 2 ^ (d + 1) := by rw [e2]; exact Int.dvd_mul_right _ _
    have ih := back_zero hn he ho d (hr.mono dd) (far := far) fun i h => Int.dvd_trans dd (hz i h)
    have hp : (2 ^ d : Int) ≠ 0 := Int.ne_of_gt (Int.pow_pos (by decide))
    have er : ∀ i, (ws.length - n) * d ≤ i → r i = 2 ^ d * (r i / 2 ^ d) := fun i h => (Int.mul_ediv_cancel' (ih i h)).symm
    have hi2 : (ws.length - n) * d + (ws.length - n) ≤ i := by rw [Nat.mul_succ] at hi; exact hi
    generalize hk : (ws.length - n) * d = kd at *
    have h1 := back_one hn he ho (r := fun j => r (kd + j) / 2 ^ d) (far := far) (fun j => by
      have h := hr (kd + j)
      have e3 : r (kd + j + ws.length) - sumN ws.length (fun b => ws.getD b 0 * r (kd + j + ws.length - 1 - b)) = 2 ^ d * (r (kd + (j + ws.length)) / 2 ^ d - sumN ws.length fun b => ws.getD b 0 * (r (kd + (j + ws.length - 1 - b)) / 2 ^ d)) := by
        rw [Int.mul_sub, ← er _ (by omega), ← sumN_mul, ← Nat.add_assoc]
        congr 1
        refine sumN_congr fun b hb => ?_
        rw [show kd + j + ws.length - 1 - b = kd + (j + ws.length - 1 - b) by omega, Int.mul_left_comm, ← er _ (by omega)]
      rw [e3, e2] at h
      exact Int.dvd_of_mul_dvd_mul_left hp h) (fun j hj => by
      have h := hz (kd + j) (by omega)
      rw [er (kd + j) (by omega), e2] at h
      exact Int.dvd_of_mul_dvd_mul_left hp h) (i - kd) (by omega)
    rw [show kd + (i - kd) = i by omega] at h1
    rw [er i (by omega), e2]
    exact Int.mul_dvd_mul_left _ h1
/-- an order of nothing, and all behind is nothing -/
theorem fol_zero {N : Int} {ws : List Int} {r : Nat → Int} (hr : Fol N ws r) {p : Nat} (hz : ∀ t, t < ws.length → N ∣ r (p + t)) : ∀ i, p ≤ i → N ∣ r i := by
  suffices h : ∀ m i, p ≤ i → i < p + m → N ∣ r i from fun i hi => h (i + 1) i hi (by omega)
  intro m
  induction m with
  | zero => intro i _ _; omega
  | succ m ih =>
    intro i h1 h2
    by_cases c : i < p + ws.length
    · have := hz (i - p) (by omega)
      rwa [show p + (i - p) = i by omega] at this
    · have h := hr (i - ws.length)
      rw [show i - ws.length + ws.length = i by omega] at h
      have h3 : N ∣ sumN ws.length fun b => ws.getD b 0 * r (i - 1 - b) := sumN_dvd fun b hb => Int.dvd_mul_of_dvd_right (ih _ (by omega) (by omega))
      have := Int.dvd_add h h3
      rwa [Int.sub_add_cancel] at this
theorem zero_back {d : Nat} {ws : List Int} {r : Nat → Int} (hr : Fol (2 ^ d) ws r) {p : Nat} (hz : ∀ t, t < ws.length → (2 ^ d : Int) ∣ r (p + t)) (i : Nat) (hi : ws.length * d ≤ i) : (2 ^ d : Int) ∣ r i := by
  obtain ⟨n, h1, h2, h3⟩ := odd_top ws
  exact back_zero h1 h2 h3 d hr (fol_zero hr hz) i (Nat.le_trans (Nat.mul_le_mul_right d (by omega)) hi)
/-! two rows by two rules: their difference follows the product -/
theorem fol_sub {N : Int} {w u : List Int} {r s : Nat → Int} (hr : Fol N w r) (hs : Fol N u s) : Fol N (prodL (asP w) (asP u)) fun i => r i - s i := by
  rw [fol_asP]
  intro i
  have e : (sumN (asP (prodL (asP w) (asP u))).length fun p => (asP (prodL (asP w) (asP u))).getD p 0 * (r (i + p) - s (i + p))) = (sumN (asP (prodL (asP w) (asP u))).length fun p => (asP (prodL (asP w) (asP u))).getD p 0 * r (i + p)) - sumN (asP (prodL (asP w) (asP u))).length fun p => (asP (prodL (asP w) (asP u))).getD p 0 * s (i + p) := by
    rw [Int.sub_eq_add_neg, ← Int.neg_one_mul, ← sumN_mul, ← sumN_add]
    refine sumN_congr fun p _ => ?_
    rw [Int.neg_one_mul, ← Int.sub_eq_add_neg, Int.mul_sub]
  rw [e]
  refine Int.dvd_sub (fol_prod hr i) ?_
  rw [prod_tell]
  have e2 : (sumN (asP u).length fun t => (asP u).getD t 0 * sumN (asP w).length fun k => (asP w).getD k 0 * s (i + t + k)) = sumN (asP w).length fun k => (asP w).getD k 0 * sumN (asP u).length fun t => (asP u).getD t 0 * s (i + k + t) := by
    have e3 : (sumN (asP u).length fun t => (asP u).getD t 0 * sumN (asP w).length fun k => (asP w).getD k 0 * s (i + t + k)) = sumN (asP u).length fun t => sumN (asP w).length fun k => (asP u).getD t 0 * ((asP w).getD k 0 * s (i + t + k)) := sumN_congr fun t _ => (sumN_mul _ _ _).symm
    rw [e3, sumN_swap]
    refine sumN_congr fun k _ => ?_
    rw [← sumN_mul]
    refine sumN_congr fun t _ => ?_
    rw [Int.mul_left_comm, show i + t + k = i + k + t by omega]
  rw [e2]
  exact sumN_dvd fun k _ => Int.dvd_mul_of_dvd_right (fol_asP.mp hs (i + k))
/-- samples that differ by a multiple are alike -/
theorem alike_of {h x y : Int} (hx : -h ≤ x ∧ x < h) (hy : -h ≤ y ∧ y < h) (hd : 2 * h ∣ x - y) : x = y := by
  obtain ⟨c, hc⟩ := hd
  have h1 := hx.1; have h2 := hx.2; have h3 := hy.1; have h4 := hy.2
  rcases Int.lt_trichotomy c 0 with k | k | k
  · have : 2 * h * c ≤ 2 * h * (-1) := Int.mul_le_mul_of_nonneg_left (by omega) (by omega)
    omega
  · rw [k] at hc; omega
  · have : 2 * h * 1 ≤ 2 * h * c := Int.mul_le_mul_of_nonneg_left (by omega) (by omega)
    omega
section
variable {d : Nat} {w u fs ss : List Int} (d1 : 1 ≤ d) (lf : fs.length = w.length) (ls : ss.length = u.length) (rf : ∀ x ∈ fs, -(2 ^ (d - 1) : Int) ≤ x ∧ x < 2 ^ (d - 1)) (rs : ∀ x ∈ ss, -(2 ^ (d - 1) : Int) ≤ x ∧ x < 2 ^ (d - 1))
include d1 lf ls rf rs
theorem unl_dvd (i : Nat) : goR (2 ^ (d - 1)) w fs i = goR (2 ^ (d - 1)) u ss i ↔ (2 ^ d : Int) ∣ goR (2 ^ (d - 1)) w fs i - goR (2 ^ (d - 1)) u ss i := by
  constructor
  · intro h; rw [h, Int.sub_self]; exact Int.dvd_zero _
  · intro h
    rw [← two_half d1] at h
    exact alike_of (goR_range (half_pos d) rf i) (goR_range (half_pos d) rs i) h
theorem unl_fol : Fol (2 ^ d) (prodL (asP w) (asP u)) fun i => goR (2 ^ (d - 1)) w fs i - goR (2 ^ (d - 1)) u ss i := by
  rw [← two_half d1]
  exact fol_sub (goR_fol (half_pos d) lf) (goR_fol (half_pos d) ls)
theorem unl_len : (prodL (asP w) (asP u)).length = w.length + u.length := by rw [prodL_len, asP_len, asP_len]; omega
/-- as many as both have alike: all behind are alike -/
theorem unl_on {p : Nat} (h : ∀ t, t < w.length + u.length → goR (2 ^ (d - 1)) w fs (p + t) = goR (2 ^ (d - 1)) u ss (p + t)) (i : Nat) (hi : p ≤ i) : goR (2 ^ (d - 1)) w fs i = goR (2 ^ (d - 1)) u ss i :=
  (unl_dvd d1 lf ls rf rs i).mpr (fol_zero (unl_fol d1 lf ls rf rs) (p := p) (fun t ht => (unl_dvd d1 lf ls rf rs _).mp (h t (by rw [unl_len d1 lf ls rf rs] at ht; exact ht))) i hi)
/-- and all from the depth times that on -/
theorem unl_back {p : Nat} (h : ∀ t, t < w.length + u.length → goR (2 ^ (d - 1)) w fs (p + t) = goR (2 ^ (d - 1)) u ss (p + t)) (i : Nat) (hi : d * (w.length + u.length) ≤ i) : goR (2 ^ (d - 1)) w fs i = goR (2 ^ (d - 1)) u ss i :=
  (unl_dvd d1 lf ls rf rs i).mpr (zero_back (unl_fol d1 lf ls rf rs) (p := p) (fun t ht => (unl_dvd d1 lf ls rf rs _).mp (h t (by rw [unl_len d1 lf ls rf rs] at ht; exact ht))) i (by rw [unl_len d1 lf ls rf rs, Nat.mul_comm]; exact hi))
end
end My

namespace My
open PySem PySem.Spec PyProof.Rows L2 Pre
/-! ### odd values: what is shown of them, odd items of lists -/
/-- what is shown of a thing -/
def Shw (K : PySem.W.Frag) (H : Hp) (x : V) (t : Str) : Prop := ∃ d, Dp K H x d ∧ d.showable = true ∧ SeqAt.shaped d = true ∧ d.shown.length ≤ sizeLine ∧ t = d.shown
theorem Shw.same {K : PySem.W.Frag} {H H' : Hp} {x : V} {t : Str} (s : Same H H') (h : Shw K H x t) : Shw K H' x t := by
  obtain ⟨d, hd, h⟩ := h
  exact ⟨d, Pre.dp_same s _ _ hd, h⟩
theorem Shw.repr {K : PySem.W.Frag} {H : Hp} {x : V} {t : Str} {Q : VK} (h : Shw K H x t) (q : Q (.str t) H) : rReprX K [x] H Q := by
  obtain ⟨d, hd, h1, h2, h3, rfl⟩ := h
  exact .inl ⟨x, d, rfl, hd, h1, h2, h3, q⟩
theorem pair_shaped {a t : Str} (ha : PyData.strOk a = true) (ht : PyData.strOk t = true) : SeqAt.shaped (.list [.str a, .str t]) = true := by
  simp [SeqAt.shaped, PyData.canLay0, PyData.canLayAll0, PyData.depth, PyData.depthAll, ha, ht]
theorem pair_eqv (a t : Str) : PyData.eqv (.list [.str a, .str t]) (.list [.str a, .str t]) = true := by
  simp [PyData.eqv, PyData.eqvAll]
theorem shw_ok {K : PySem.W.Frag} {H : Hp} {x : V} {d : PyData} (hd : Dp K H x d) (h : (d.showable && SeqAt.shaped d && decide (d.shown.length ≤ sizeLine) && PyData.strOk d.shown) = true) : ∃ t, Shw K H x t ∧ PyData.strOk t = true := by
  rw [Bool.and_eq_true, Bool.and_eq_true, Bool.and_eq_true] at h
  exact ⟨_, ⟨d, hd, h.1.1.1, h.1.1.2, of_decide_eq_true h.1.2, rfl⟩, h.2⟩
theorem item_bl {K : PySem.W.Frag} {H : Hp} (b : Bool) : Item K H (.bl b) := .inr ⟨rfl, .inl ⟨b, rfl⟩, .bool b, .bl b, rfl, by rw [PyData.depth]; decide⟩
theorem item_non {K : PySem.W.Frag} {H : Hp} : Item K H .non := .inr ⟨rfl, .inr ⟨_, .base .non, by decide +kernel⟩, .none, .non, rfl, by rw [PyData.depth]; decide⟩
theorem item_str {K : PySem.W.Frag} {H : Hp} (s : Str) (h : PyData.strOk s = true) : Item K H (.str s) := .inr ⟨rfl, .inr ⟨_, .base (.str _), by decide +kernel⟩, .str s, .str s, h, by rw [PyData.depth]; decide⟩
theorem item_lst {K : PySem.W.Frag} {H : Hp} {p : Addr} {ns : List Int} (h : H p = some (.lst (ns.map V.int))) : Item K H (.ref p) := .inr ⟨rfl, .inr ⟨_, .base (.lst h), by decide +kernel⟩, .list (ns.map PyData.int), dp_row (.inl (.inl h)), by rw [PyData.canLay0]; exact lay_ints ns, by rw [PyData.depth, depth_ints]; omega⟩
theorem items1 {K : PySem.W.Frag} {H : Hp} {x : V} (h : Item K H x) : ∀ y ∈ [x], Item K H y := fun y hy => by rw [List.mem_singleton.mp hy]; exact h
theorem items2 {K : PySem.W.Frag} {H : Hp} {x z : V} (h : Item K H x) (k : Item K H z) : ∀ y ∈ [x, z], Item K H y := fun y hy => by
  rcases List.mem_cons.mp hy with e | e
  · rw [e]; exact h
  · rw [List.mem_singleton.mp e]; exact k
/-- two ways to a value, one way on -/
theorem join_te {c : Bool} {te1 te2 : TE} {σ : L2.St} {H : Hp} {R : VK} (Pv : V → Hp → Prop) (h1 : c = true → ∀ R' : VK, (∀ v H', Pv v H' → R' v H') → te1 σ H R') (h2 : c = false → ∀ R' : VK, (∀ v H', Pv v H' → R' v H') → te2 σ H R') (cont : ∀ v H', Pv v H' → R v H') : if c = true then te1 σ H R else te2 σ H R := by
  cases c with
  | true => exact h1 rfl R cont
  | false => exact h2 rfl R cont
end My

namespace My
/-! ### heads and least periods of states -/
/-- states that tell the next one -/
def Nxt {α : Type} (S : Nat → α) : Prop := ∀ i j, S i = S j → S (i + 1) = S (j + 1)
theorem Nxt.on {α : Type} {S : Nat → α} (h : Nxt S) {i j : Nat} (e : S i = S j) : ∀ n, S (i + n) = S (j + n)
  | 0 => e
  | n + 1 => h _ _ (h.on e n)
theorem Nxt.times {α : Type} {S : Nat → α} (h : Nxt S) {a L : Nat} (e : S (a + L) = S a) : ∀ k, S (a + L * k) = S a
  | 0 => rfl
  | k + 1 => by
    rw [Nat.mul_succ, Nat.add_comm (L * k), ← Nat.add_assoc, h.on e (L * k), h.times e k]
theorem Nxt.behind {α : Type} {S : Nat → α} (h : Nxt S) {a L : Nat} (e : S (a + L) = S a) {n : Nat} (hn : a ≤ n) : S (n + L) = S n := by
  obtain ⟨m, rfl⟩ := Nat.le.dest hn
  have := h.on e m
  rw [show a + m + L = a + L + m by omega]
  exact this
theorem Nxt.rest {α : Type} {S : Nat → α} (h : Nxt S) {a p L : Nat} (e : S (a + p) = S a) (f : S (a + L) = S a) : S (a + L % p) = S a := by
  have t := h.times e (L / p)
  have u := h.on t (L % p)
  rw [Nat.add_assoc, Nat.div_add_mod] at u
  rw [← u]
  exact f
/-- the least period at a place -/
def Least {α : Type} (S : Nat → α) (a p : Nat) : Prop := 1 ≤ p ∧ S (a + p) = S a ∧ ∀ L, 1 ≤ L → S (a + L) = S a → p ≤ L
theorem Least.iff {α : Type} {S : Nat → α} (h : Nxt S) {a p : Nat} (l : Least S a p) (L : Nat) : S (a + L) = S a ↔ p ∣ L := by
  constructor
  · intro f
    have r := h.rest l.2.1 f
    rcases Nat.eq_zero_or_pos (L % p) with z | z
    · exact Nat.dvd_of_mod_eq_zero z
    · have := l.2.2 _ z r
      have := Nat.mod_lt L l.1
      omega
  · rintro ⟨k, rfl⟩
    exact h.times l.2.1 k
theorem least_any {α : Type} (S : Nat → α) (a : Nat) : ∀ L, 1 ≤ L → S (a + L) = S a → ∃ p, Least S a p := by
  intro L
  induction L using Nat.strongRecOn with
  | ind L ih =>
    intro h1 e
    by_cases c : ∃ K, 1 ≤ K ∧ K < L ∧ S (a + K) = S a
    · obtain ⟨K, k1, k2, k3⟩ := c
      exact ih K k2 k1 k3
    · exact ⟨L, h1, e, fun K k1 k3 => Nat.le_of_not_lt fun k2 => c ⟨K, k1, k2, k3⟩⟩
def Prime (q : Nat) : Prop := 2 ≤ q ∧ ∀ a, a ∣ q → a = 1 ∨ a = q
theorem prime_gcd {q c : Nat} (hq : Prime q) (h : ¬ q ∣ c) : Nat.gcd c q = 1 := by
  rcases hq.2 _ (Nat.gcd_dvd_right c q) with e | e
  · exact e
  · exact absurd (e ▸ Nat.gcd_dvd_left c q) h
def prodN : List Nat → Nat
  | [] => 1
  | q :: r => q * prodN r
/-- lengths taken out of a period, factor by factor -/
def takeF {α : Type} [DecidableEq α] (S : Nat → α) (a : Nat) : Nat → List Nat → Nat
  | T, [] => T
  | T, q :: r => takeF S a (if S (a + T / q) = S a then T / q else T) r
theorem take_least {α : Type} [DecidableEq α] {S : Nat → α} (h : Nxt S) {a p : Nat} (l : Least S a p) : ∀ (fs : List Nat) (kept c : Nat), (∀ q ∈ fs, Prime q) → kept * prodN fs = p * c → c ∣ prodN fs → takeF S a (kept * prodN fs) fs = p
  | [], kept, c, _, e, hc => by
    have c1 : c = 1 := Nat.eq_one_of_dvd_one hc
    show kept * 1 = p
    rw [show kept * 1 = p * c from e, c1, Nat.mul_one]
  | q :: r, kept, c, hp, e, hc => by
    have hq := hp q List.mem_cons_self
    have q0 : 0 < q := by have := hq.1; omega
    have ed : kept * prodN (q :: r) / q = kept * prodN r := by
      show kept * (q * prodN r) / q = _
      rw [Nat.mul_left_comm, Nat.mul_div_cancel_left _ q0]
    show takeF S a (if S (a + kept * prodN (q :: r) / q) = S a then kept * prodN (q :: r) / q else kept * prodN (q :: r)) r = p
    rw [ed]
    have e' : q * (kept * prodN r) = p * c := by rw [← e]; show _ = kept * (q * prodN r); rw [Nat.mul_left_comm]
    have p0 := l.1
    by_cases s : S (a + kept * prodN r) = S a
    · rw [if_pos s]
      obtain ⟨m, hm⟩ := (l.iff h _).mp s
      have cm : c = q * m := by
        rw [hm, Nat.mul_left_comm] at e'
        exact (Nat.eq_of_mul_eq_mul_left p0 e').symm
      refine take_least h l r kept m (fun x hx => hp x (List.mem_cons_of_mem _ hx)) hm ?_
      rw [cm] at hc
      exact Nat.dvd_of_mul_dvd_mul_left q0 hc
    · rw [if_neg s]
      have nq : ¬ q ∣ c := fun ⟨m, hm⟩ => s ((l.iff h _).mpr ⟨m, Nat.eq_of_mul_eq_mul_left q0 (e'.trans (by rw [hm]; exact Nat.mul_left_comm p q m))⟩)
      have hc2 : c ∣ prodN r := (Nat.Coprime.dvd_of_dvd_mul_left (prime_gcd hq nq) hc)
      have ek : kept * prodN (q :: r) = (kept * q) * prodN r := by show kept * (q * prodN r) = _; rw [Nat.mul_assoc]
      rw [ek]
      exact take_least h l r (kept * q) c (fun x hx => hp x (List.mem_cons_of_mem _ hx)) (by rw [← ek]; exact e) hc2
theorem prodN_app (l : List Nat) (q : Nat) : prodN (l ++ [q]) = prodN l * q := by
  induction l with
  | nil => show q * 1 = 1 * q; omega
  | cons a r ih => show a * prodN (r ++ [q]) = a * prodN r * q; rw [ih, Nat.mul_assoc]
/-- a least divisor from 2 on is a prime -/
theorem prime_least {f n : Nat} (h2 : 2 ≤ f) (hd : f ∣ n) (h : ∀ a, 2 ≤ a → a < f → ¬ a ∣ n) : Prime f := ⟨h2, fun a ha => by
  have hle := Nat.le_of_dvd (by omega) ha
  rcases Nat.lt_or_ge a 2 with c | c
  · have : a ≠ 0 := fun z => by rw [z] at ha; have := Nat.eq_zero_of_zero_dvd ha; omega
    exact .inl (by omega)
  · rcases Nat.lt_or_ge a f with k | k
    · exact absurd (Nat.dvd_trans ha hd) (h a c k)
    · exact .inr (by omega)⟩
/-- the first place from which on a length leads back -/
def Head {α : Type} (S : Nat → α) (L h : Nat) : Prop := S (h + L) = S h ∧ ∀ a, a < h → S (a + L) ≠ S a
theorem Head.iff {α : Type} {S : Nat → α} (h : Nxt S) {L hd : Nat} (k : Head S L hd) (a : Nat) : S (a + L) = S a ↔ hd ≤ a := by
  constructor
  · intro e
    exact Nat.le_of_not_lt fun c => k.2 a c e
  · intro c
    exact h.behind k.1 c
end My

namespace My
open PySem PySem.Spec PyProof.Rows L2 Pre
/-! ### primes of a length -/
theorem prod_len : ∀ fs : List Nat, (∀ q ∈ fs, 2 ≤ q) → 2 ^ fs.length ≤ prodN fs
  | [], _ => Nat.le_refl 1
  | q :: r, h => by
    have := prod_len r fun x hx => h x (List.mem_cons_of_mem _ hx)
    have h2 := h q List.mem_cons_self
    show 2 ^ (r.length + 1) ≤ q * prodN r
    rw [Nat.pow_succ, Nat.mul_comm]
    exact Nat.mul_le_mul h2 this
def nV (l : List Nat) : List V := l.map fun i : Nat => V.int (i : Int)
theorem nV_len (l : List Nat) : (nV l).length = l.length := List.length_map _
local macro_rules | `(tactic| walk_at "go") => `(tactic| repeat (first | (with_reducible first | refine iteT ?_ | refine iteF ?_ | refine iteNtt ?_ | refine iteNff ?_ | refine iteET (by omega) ?_ | refine iteEF (by omega) ?_ | refine iteENT (by omega) ?_ | refine iteENF (by omega) ?_ | refine iteDT (by omega) ?_ | refine iteDF (by omega) ?_ | refine iteNT (by omega) ?_ | refine iteNF (by omega) ?_) | refine ⟨_, rfl, ?_⟩ | refine ⟨_, _, rfl, rfl, ?_⟩ | refine ⟨_, _, rfl, ?_⟩ | refine ⟨rfl, ?_⟩ | refine .inl ⟨_, rfl, ?_⟩ | refine .inr ⟨_, rfl, ?_⟩))
local macro_rules | `(tactic| walk_at "b") => `(tactic| try dsimp (config := { proj := false, iota := false, eta := false, zeta := false }) only)
section
variable {P : Program} {w : World} {K : PySem.W.Frag} {mg : Str → Option Value} {base : Heap} [pf : Sup.PF P fileS]
def sp_factors_of : Sp := fun vs H Q _ => ∃ n : Nat, vs = [.int n] ∧ 1 ≤ n ∧ n < 2 ^ 60 ∧ ∀ H' p fs, H p = none → Same H H' → H' p = some (.lst (nV fs)) → (∀ q ∈ fs, Prime q) → prodN fs = n → Q (.ref p) H'
theorem G_factors_of (T : Top K mg) : FnOk P w K mg base CX0 1 T.f_factors_of T.fd_factors_of ["number"] sp_factors_of := by
  refine T.F_factors_of.ok sc_factors_of (fun vs H Q E h => by obtain ⟨n, rfl, _⟩ := h; rfl) (fun cdv A outer s H vs Q E hr h => ?_)
  obtain ⟨n, rfl, h1, hn, q⟩ := h
  refine ⟨_, PSs.nox (pss_cons (ps_par (by rfl) sc_factors_of.nd (i := 1) (j := 2) rfl rfl (by decide) rfl rfl (pa_cons (pe_lst pa_nil) (pa_cons pe_int pa_nil)) (by rfl))
  (pss_cons (ps_while PassesOwn.never (pt_cmpR op_gt (pv 0) pe_int (nomark _))
    (pss_one (ps_if (pt_cmpR op_eq (pe_op op_mod (pv 0) (pv 2)) pe_int (nomark _))
    (pss_cons (ps_expr (pe_bm PySem.F.plainAttrs_list PySem.F.slot_list_append PySem.F.type_list_append mt_append (pv 1) (pa_cons (pv 2) pa_nil)))
  (pss_one (ps_set (i := 0) sc_factors_of.nd rfl (by first | exact Or.inl rfl | exact Or.inr rfl) (pe_op op_fdivW (pv 0) (pv 2)))))
    (pss_one (ps_set (i := 2) sc_factors_of.nd rfl (by first | exact Or.inl rfl | exact Or.inr rfl) (pe_op op_add (pv 2) pe_int))))))
  (pss_one (ps_ret (pv 1))))), ?_⟩
  refine ⟨Nat.zero_le _, fun p np => ?_⟩
  obtain ⟨H1, e1, s1, hp⟩ := fresh (.lst ([] : List V)) np
  rw [e1]
  refine ⟨_, _, rfl, ?_⟩
  refine ⟨fun μ σ H2 => ∃ (m f : Nat) (fs : List Nat), μ = 2 * m - f ∧ σ = [some (.int m), some (.ref p), some (.int f)] ∧ Same H H2 ∧ H2 p = some (.lst (nV fs)) ∧ 1 ≤ m ∧ 2 ≤ f ∧ (∀ q ∈ fs, Prime q) ∧ prodN fs * m = n ∧ (∀ a, 2 ≤ a → a < f → ¬ a ∣ m), ⟨2 * n - 2, n, 2, [], rfl, rfl, s1, hp, h1, Nat.le_refl _, (fun _ z => nomatch z), by show 1 * n = n; omega, fun a a2 a3 => absurd a3 (by omega)⟩, ?_⟩
  rintro μ σ H2 ⟨m, f, fs, eμ, rfl, s2, hp2, m1, f2, hpr, hm, hno⟩
  refine ⟨_, rfl, _, _, rfl, rfl, _, rfl, ?_⟩
  by_cases c : 1 < m
  · refine iteDT (by omega) ?_
    have fm : f ≤ m := Nat.le_of_not_lt fun k => hno m (by omega) k (Nat.dvd_refl m)
    have f0 : 0 < f := by omega
    refine ⟨fun σ H3 => ∃ (m' f' : Nat) (fs' : List Nat), 2 * m' - f' < μ ∧ σ = [some (.int m'), some (.ref p), some (.int f')] ∧ Same H H3 ∧ H3 p = some (.lst (nV fs')) ∧ 1 ≤ m' ∧ 2 ≤ f' ∧ (∀ q ∈ fs', Prime q) ∧ prodN fs' * m' = n ∧ (∀ a, 2 ≤ a → a < f' → ¬ a ∣ m'), fun σ' H' ⟨m', f', fs', hlt, h⟩ => ⟨_, hlt, m', f', fs', rfl, h⟩, ?_⟩
    refine ⟨_, rfl, _, rfl, _, _, rfl, rfl, by omega, rfl, _, rfl, ?_⟩
    have hmn : m ≤ n := by
      rw [← hm]
      have : 1 ≤ prodN fs := Nat.le_trans (Nat.one_le_two_pow (n := fs.length)) (prod_len fs fun q hq => (hpr q hq).1)
      exact Nat.le_mul_of_pos_left m this
    have hfl : fs.length ≤ 60 := Nat.le_of_not_lt fun k => by
      have a := prod_len fs fun q hq => (hpr q hq).1
      have b : 2 ^ 60 ≤ 2 ^ fs.length := Nat.pow_le_pow_right (by decide) (by omega)
      have c2 : prodN fs ≤ n := by rw [← hm]; exact Nat.le_mul_of_pos_right _ m1
      omega
    by_cases hd : f ∣ m
    · have em : (m : Int) % (f : Int) = 0 := Int.emod_eq_zero_of_dvd (Int.natCast_dvd_natCast.mpr hd)
      refine iteET em ?_
      refine ⟨_, rfl, .inl ⟨rfl, _, .inl (.inl hp2)⟩, _, rfl, p, _, _, rfl, rfl, hp2, by rw [nV_len]; exact Nat.lt_of_le_of_lt hfl (by decide), ?_⟩
      refine ⟨_, rfl, _, rfl, _, _, rfl, rfl, wide_div (b := 60) (by omega) (by omega) (by decide) (by decide), ?_⟩
      obtain ⟨k, rfl⟩ := hd
      have ek : f * k / f = k := Nat.mul_div_cancel_left k f0
      have k1 : 1 ≤ k := Nat.pos_of_ne_zero fun z => by rw [z] at m1; omega
      have ei : ((f * k : Nat) : Int) / (f : Int) = (k : Int) := by rw [← Int.natCast_ediv, ek]
      have kf : k < f * k := by
        have : 2 * k ≤ f * k := Nat.mul_le_mul_right k f2
        omega
      refine ⟨k, f, fs ++ [f], by omega, ?_, same_over np s2, ?_, k1, f2, fun q hq => ?_, by rw [prodN_app, Nat.mul_assoc]; exact hm, fun a a2 a3 ha => hno a a2 a3 (Nat.dvd_trans ha (Nat.dvd_mul_left k f))⟩
      · show _ = [some (V.int (k : Int)), some (V.ref p), some (V.int (f : Int))]
        rw [← ei]
        rfl
      · rw [upd_same]
        unfold nV
        rw [List.map_append]
        rfl
      · rcases List.mem_append.mp hq with h | h
        · exact hpr q h
        · rw [List.mem_singleton.mp h]
          exact prime_least f2 (Nat.dvd_mul_right f k) hno
    · have em : ¬ (m : Int) % (f : Int) = 0 := fun z => hd (Int.natCast_dvd_natCast.mp (Int.dvd_of_emod_eq_zero z))
      refine iteEF em ?_
      refine ⟨_, rfl, _, _, rfl, rfl, ?_⟩
      have fne : f ≠ m := fun z => hd (z ▸ Nat.dvd_refl f)
      refine ⟨m, f + 1, fs, by omega, rfl, s2, hp2, m1, by omega, hpr, hm, fun a a2 a3 ha => ?_⟩
      rcases Nat.lt_or_ge a f with k | k
      · exact hno a a2 k ha
      · obtain rfl : a = f := by omega
        exact hd ha
  · refine iteDF (by omega) ?_
    obtain rfl : m = 1 := by omega
    exact ⟨_, rfl, q _ p fs np s2 hp2 hpr (by omega)⟩
end
end My

namespace My
/-! ### the states of a row -/
def stL (h : Int) (ws fs : List Int) (n : Nat) : List Int := (List.range ws.length).map fun l => goR h ws fs (l + n)
theorem stL_len (h : Int) (ws fs : List Int) (n : Nat) : (stL h ws fs n).length = ws.length := by unfold stL; rw [List.length_map, List.length_range]
theorem stL_eq {h : Int} {ws fs : List Int} {i j : Nat} : stL h ws fs i = stL h ws fs j ↔ ∀ l, l < ws.length → goR h ws fs (l + i) = goR h ws fs (l + j) := by
  unfold stL
  constructor
  · intro e l hl
    have := congrArg (fun x : List Int => x[l]?) e
    simp only [List.getElem?_map, List.getElem?_range hl, Option.map_some] at this
    exact Option.some.inj this
  · intro e
    exact List.map_congr_left fun l hl => e l (List.mem_range.mp hl)
theorem near_eq {h x y : Int} (hx : -h ≤ x ∧ x < h) (hy : -h ≤ y ∧ y < h) (hd : 2 * h ∣ x - y) : x = y := by
  have := wrap_eq hy hd
  have hh : 0 < h := by omega
  have e2 : (x + h) % (2 * h) = x + h := Int.emod_eq_of_lt (by omega) (by omega)
  omega
theorem st_next {h : Int} (hh : 0 < h) {ws fs : List Int} (hl : fs.length = ws.length) (hf : ∀ x ∈ fs, -h ≤ x ∧ x < h) : Nxt (stL h ws fs) := by
  intro i j e
  rw [stL_eq] at e ⊢
  intro l hlt
  by_cases c : l + 1 < ws.length
  · have := e (l + 1) c
    rw [show l + (i + 1) = l + 1 + i by omega, show l + (j + 1) = l + 1 + j by omega]
    exact this
  · have el : l + 1 = ws.length := by omega
    have fi := goR_fol hh hl i
    have fj := goR_fol hh hl j
    refine near_eq (goR_range hh hf _) (goR_range hh hf _) ?_
    rw [show l + (i + 1) = i + ws.length by omega, show l + (j + 1) = j + ws.length by omega]
    have es : (sumN ws.length fun b => ws.getD b 0 * goR h ws fs (i + ws.length - 1 - b)) = sumN ws.length fun b => ws.getD b 0 * goR h ws fs (j + ws.length - 1 - b) := sumN_congr fun b hb => by
      have := e (ws.length - 1 - b) (by omega)
      rw [show i + ws.length - 1 - b = ws.length - 1 - b + i by omega, show j + ws.length - 1 - b = ws.length - 1 - b + j by omega, this]
    rw [es] at fi
    have := Int.dvd_sub fi fj
    rw [show ∀ a b c : Int, a - c - (b - c) = a - b from fun a b c => by omega] at this
    exact this
end My

namespace My
/-! ### powers over two come again -/
/-- of more places than there are codes two have the same -/
theorem same_code : ∀ (n : Nat) (f : Nat → Nat), (∀ i, i ≤ n → f i < n) → ∃ i j, i < j ∧ j ≤ n ∧ f i = f j
  | 0, f, h => absurd (h 0 (Nat.le_refl 0)) (Nat.not_lt_zero _)
  | n + 1, f, h => by
    by_cases c : ∃ i, i ≤ n ∧ f i = f (n + 1)
    · obtain ⟨i, hi, e⟩ := c
      exact ⟨i, n + 1, by omega, Nat.le_refl _, e⟩
    · have hno : ∀ i, i ≤ n → f i ≠ f (n + 1) := fun i hi e => c ⟨i, hi, e⟩
      have hl := h (n + 1) (Nat.le_refl _)
      obtain ⟨i, j, h1, h2, h3⟩ := same_code n (fun i => if f i < f (n + 1) then f i else f i - 1) fun i hi => by
        have a := h i (by omega)
        have b := hno i hi
        show (if f i < f (n + 1) then f i else f i - 1) < n
        split <;> omega
      refine ⟨i, j, h1, by omega, ?_⟩
      have a := hno i (by omega)
      have b := hno j h2
      have e : (if f i < f (n + 1) then f i else f i - 1) = if f j < f (n + 1) then f j else f j - 1 := h3
      split at e <;> split at e <;> omega
/-- bits as a number -/
def codeN (n : Nat) (f : Nat → Int) : Nat := match n with
  | 0 => 0
  | n + 1 => codeN n f + (f n).toNat * 2 ^ n
theorem code_lt {f : Nat → Int} : ∀ n, (∀ p, p < n → 0 ≤ f p ∧ f p < 2) → codeN n f < 2 ^ n
  | 0, _ => Nat.one_pos
  | n + 1, h => by
    have a := code_lt n fun p hp => h p (by omega)
    have b := h n (Nat.lt_succ_self n)
    have : (f n).toNat = 0 ∨ (f n).toNat = 1 := by omega
    show codeN n f + (f n).toNat * 2 ^ n < 2 ^ (n + 1)
    rw [Nat.pow_succ]
    rcases this with e | e <;> rw [e] <;> omega
theorem code_inj {f g : Nat → Int} : ∀ n, (∀ p, p < n → 0 ≤ f p ∧ f p < 2) → (∀ p, p < n → 0 ≤ g p ∧ g p < 2) → codeN n f = codeN n g → ∀ p, p < n → f p = g p
  | 0, _, _, _, p, hp => absurd hp (Nat.not_lt_zero p)
  | n + 1, hf, hg, e, p, hp => by
    have a := code_lt n fun p hp => hf p (by omega)
    have b := code_lt n fun p hp => hg p (by omega)
    have cf := hf n (Nat.lt_succ_self n)
    have cg := hg n (Nat.lt_succ_self n)
    have e' : codeN n f + (f n).toNat * 2 ^ n = codeN n g + (g n).toNat * 2 ^ n := e
    have zf : (f n).toNat = 0 ∨ (f n).toNat = 1 := by omega
    have zg : (g n).toNat = 0 ∨ (g n).toNat = 1 := by omega
    have key : codeN n f = codeN n g ∧ (f n).toNat = (g n).toNat := by
      rcases zf with x | x <;> rcases zg with y | y <;> rw [x, y] at e' <;> rw [x, y] <;> omega
    rcases Nat.lt_or_ge p n with h | h
    · exact code_inj n (fun p hp => hf p (by omega)) (fun p hp => hg p (by omega)) key.1 p h
    · obtain rfl : p = n := by omega
      omega
theorem pw_range (q : List Int) (t p : Nat) : 0 ≤ pwL q t p ∧ pwL q t p < 2 := by
  cases t with
  | zero => exact red_range (by decide) _ p
  | succ t => exact red_range (by decide) _ p
/-- the next power -/
theorem pw_next {q : List Int} (hq : 0 < q.length) (t : Nat) {p : Nat} (hp : p < q.length) : pwL q (t + 1) p = ((if p = 0 then 0 else pwL q t (p - 1)) + pwL q t (q.length - 1) * q.getD (q.length - 1 - p) 0) % 2 := by
  have hl : lenP q (0 :: (List.range q.length).map (pwL q t)) = q.length + 1 := by
    unfold lenP
    rw [List.length_cons, List.length_map, List.length_range]
    omega
  have h0 : ∀ p, p ≤ q.length → iniP 2 (0 :: (List.range q.length).map (pwL q t)) p = if p = 0 then 0 else pwL q t (p - 1) := fun p hp => by
    unfold iniP
    cases p with
    | zero => rfl
    | succ p =>
      rw [List.getD_cons_succ, List.getD_eq_getElem?_getD, List.getElem?_map, List.getElem?_range (by omega), if_neg (by omega), Nat.add_sub_cancel]
      show pwL q t p % 2 = _
      have := pw_range q t p
      omega
  show redP 2 q (0 :: (List.range q.length).map (pwL q t)) p = _
  unfold redP
  rw [hl, show q.length + 1 - q.length = 1 by omega]
  show updW 2 q (iniP 2 _) (q.length + 1 - 1 - 0) q.length p = _
  rw [show q.length + 1 - 1 - 0 = q.length by omega]
  unfold updW
  rw [if_pos ⟨hp, by omega⟩, h0 p (by omega), h0 q.length (Nat.le_refl _), if_neg (show ¬ q.length = 0 by omega)]
end My

namespace My
/-! ### the least turn of a rule over two -/
def pwS (q : List Int) (t : Nat) : List Int := (List.range q.length).map (pwL q t)
theorem pwS_eq {q : List Int} {i j : Nat} : pwS q i = pwS q j ↔ ∀ p, p < q.length → pwL q i p = pwL q j p := by
  unfold pwS
  constructor
  · intro e l hl
    have := congrArg (fun x : List Int => x[l]?) e
    simp only [List.getElem?_map, List.getElem?_range hl, Option.map_some] at this
    exact Option.some.inj this
  · intro e
    exact List.map_congr_left fun l hl => e l (List.mem_range.mp hl)
theorem pw_back {q : List Int} (hq : 0 < q.length) (ho : q.getD (q.length - 1) 0 % 2 = 1) {i j : Nat} (e : ∀ p, p < q.length → pwL q (i + 1) p = pwL q (j + 1) p) : ∀ p, p < q.length → pwL q i p = pwL q j p := by
  have top : pwL q i (q.length - 1) = pwL q j (q.length - 1) := by
    have h := e 0 hq
    rw [pw_next hq i hq, pw_next hq j hq, if_pos rfl, if_pos rfl, Nat.sub_zero] at h
    have a := pw_range q i (q.length - 1)
    have b := pw_range q j (q.length - 1)
    generalize pwL q i (q.length - 1) = x at *
    generalize pwL q j (q.length - 1) = y at *
    generalize q.getD (q.length - 1) 0 = z at *
    have za : x = 0 ∨ x = 1 := by omega
    have zb : y = 0 ∨ y = 1 := by omega
    rcases za with rfl | rfl <;> rcases zb with rfl | rfl <;> omega
  intro p hp
  by_cases c : p + 1 < q.length
  · have h := e (p + 1) c
    rw [pw_next hq i c, pw_next hq j c, if_neg (by omega), if_neg (by omega), Nat.add_sub_cancel, top] at h
    have a := pw_range q i p
    have b := pw_range q j p
    omega
  · obtain rfl : p = q.length - 1 := by omega
    exact top
theorem turn_some {q : List Int} (hq : 0 < q.length) (ho : q.getD (q.length - 1) 0 % 2 = 1) : ∃ T, 1 ≤ T ∧ T ≤ 2 ^ q.length ∧ pwS q T = pwS q 0 := by
  obtain ⟨i, j, h1, h2, h3⟩ := same_code (2 ^ q.length) (fun t => codeN q.length (pwL q t)) fun t _ => code_lt _ fun p _ => pw_range q t p
  refine ⟨j - i, by omega, by omega, ?_⟩
  have h := code_inj q.length (fun p _ => pw_range q i p) (fun p _ => pw_range q j p) h3
  have down : ∀ i j, (∀ p, p < q.length → pwL q i p = pwL q (i + j) p) → ∀ p, p < q.length → pwL q 0 p = pwL q j p := by
    intro i
    induction i with
    | zero => intro j h; rw [Nat.zero_add] at h; exact h
    | succ i ih => intro j h; exact ih j (pw_back hq ho (by rw [show i + j + 1 = i + 1 + j by omega]; exact h))
  rw [pwS_eq]
  intro p hp
  exact (down i (j - i) (by rw [show i + (j - i) = j by omega]; exact h) p hp).symm
theorem turn_least {q : List Int} (hq : 0 < q.length) (ho : q.getD (q.length - 1) 0 % 2 = 1) : ∃ T, Least (pwS q) 0 T ∧ T ≤ 2 ^ q.length := by
  obtain ⟨L, l1, l2, l3⟩ := turn_some hq ho
  obtain ⟨T, hT⟩ := least_any (pwS q) 0 L l1 (by rw [Nat.zero_add]; exact l3)
  exact ⟨T, hT, Nat.le_trans (hT.2.2 L l1 (by rw [Nat.zero_add]; exact l3)) l2⟩
/-- what turn_of tells -/
def TurnN (ws : List Int) (T : Nat) : Prop := ∃ n, n ≤ ws.length ∧ (∀ b, n ≤ b → b < ws.length → ws.getD b 0 % 2 = 0) ∧ Turn (ws.take n) T ∧ 1 ≤ T ∧ T ≤ 256
theorem far_back {d : Nat} (d1 : 1 ≤ d) {ws fs : List Int} (hl : fs.length = ws.length) (hs : Smp d fs) {T : Nat} (h : TurnN ws T) : stL (2 ^ (d - 1)) ws fs (ws.length * d + T * 2 ^ (d - 1)) = stL (2 ^ (d - 1)) ws fs (ws.length * d) := by
  obtain ⟨n, hn, he, ht, _⟩ := h
  rw [stL_eq]
  intro l hl2
  have hF := goR_fol (half_pos d) hl
  rw [two_half d1] at hF
  have c := comes_round d1 (odd_take hn he) ht hF (l + (ws.length * d - (ws.length - n) * d))
  have le : (ws.length - n) * d ≤ ws.length * d := Nat.mul_le_mul_right d (by omega)
  refine near_eq (goR_range (half_pos d) hs _) (goR_range (half_pos d) hs _) ?_
  rw [two_half d1]
  generalize (ws.length - n) * d = A at *
  generalize ws.length * d = B at *
  generalize T * 2 ^ (d - 1) = C at *
  rw [show l + (B + C) = l + (B - A) + A + C by omega, show l + B = l + (B - A) + A by omega]
  exact c
/-! ### heads and periods -/
def Per {α : Type} (S : Nat → α) (h p : Nat) : Prop := 1 ≤ p ∧ S (h + p) = S h ∧ ∀ i L, 1 ≤ L → S (i + L) = S i → h ≤ i ∧ p ∣ L
theorem per_of {α : Type} {S : Nat → α} (hN : Nxt S) {a p hd : Nat} (l : Least S a p) (k : Head S p hd) : Per S hd p := ⟨l.1, k.1, fun i L h1 e => by
  have hp : S (a + L) = S a := by
    have t := hN.times l.2.1 i
    have ge : i ≤ a + p * i := Nat.le_trans (Nat.le_mul_of_pos_left i l.1) (Nat.le_add_left _ _)
    have b := hN.behind e ge
    have c := hN.on t L
    rw [← c, b, t]
  refine ⟨(k.iff hN i).mp ?_, (l.iff hN L).mp hp⟩
  have t := hN.times e a
  have ge : a ≤ i + L * a := Nat.le_trans (Nat.le_mul_of_pos_left a h1) (Nat.le_add_left _ _)
  have b := hN.behind l.2.1 ge
  have c := hN.on t p
  rw [← c, b, t]⟩
theorem head_any {α : Type} (S : Nat → α) (L : Nat) : ∀ a, S (a + L) = S a → ∃ h, h ≤ a ∧ Head S L h := by
  intro a
  induction a using Nat.strongRecOn with
  | ind a ih =>
    intro e
    by_cases c : ∃ b, b < a ∧ S (b + L) = S b
    · obtain ⟨b, b1, b2⟩ := c
      obtain ⟨h, h1, h2⟩ := ih b b1 b2
      exact ⟨h, by omega, h2⟩
    · exact ⟨a, Nat.le_refl _, e, fun b hb k => c ⟨b, hb, k⟩⟩
theorem per_some {α : Type} {S : Nat → α} (hN : Nxt S) {a L : Nat} (h1 : 1 ≤ L) (e : S (a + L) = S a) : ∃ h p, Per S h p ∧ h ≤ a ∧ p ≤ L := by
  obtain ⟨p, hp⟩ := least_any S a L h1 e
  obtain ⟨h, h2, hh⟩ := head_any S p a hp.2.1
  exact ⟨h, p, per_of hN hp hh, h2, hp.2.2 L h1 e⟩
theorem Per.uniq {α : Type} {S : Nat → α} {h p h' p' : Nat} (a : Per S h p) (b : Per S h' p') : h = h' ∧ p = p' := by
  have x := a.2.2 h' p' b.1 b.2.1
  have y := b.2.2 h p a.1 a.2.1
  exact ⟨Nat.le_antisymm x.1 y.1, Nat.dvd_antisymm x.2 y.2⟩
/-- ways of the states told by hand -/
theorem per_walk {α : Type} {S : Nat → α} (hN : Nxt S) {h p : Nat} (p1 : 1 ≤ p) (e : S (h + p) = S h) (un : ∀ j, j < h + p → ∀ i, i < j → S i ≠ S j) : Per S h p := by
  obtain ⟨a, q, hp, ha, hq⟩ := per_some hN p1 e
  have x := hp.2.2 h p p1 e
  have : h = a ∧ p = q := by
    by_cases c : a + q < h + p
    · exact absurd hp.2.1.symm (un (a + q) c a (by have := hp.1; omega))
    · omega
  rw [this.1, this.2]
  exact hp
/-! ### the row of nothing but its last -/
theorem Fol.plus {N : Int} {w : List Int} {u v : Nat → Int} (hu : Fol N w u) (hv : Fol N w v) (c : Int) : Fol N w fun j => u j + c * v j := fun i => by
  have e : (sumN w.length fun b => w.getD b 0 * (u (i + w.length - 1 - b) + c * v (i + w.length - 1 - b))) = (sumN w.length fun b => w.getD b 0 * u (i + w.length - 1 - b)) + c * sumN w.length fun b => w.getD b 0 * v (i + w.length - 1 - b) := by
    rw [← sumN_mul, ← sumN_add]
    exact sumN_congr fun b _ => by rw [Int.mul_add, Int.mul_left_comm]
  show N ∣ u (i + w.length) + c * v (i + w.length) - _
  rw [e]
  obtain ⟨x, hx⟩ := hu i
  obtain ⟨y, hy⟩ := hv i
  refine ⟨x + c * y, ?_⟩
  rw [Int.mul_add, Int.mul_left_comm, ← hx, ← hy, Int.mul_sub]
  omega
theorem alone_leads {d : Nat} (d1 : 1 ≤ d) {ws es fs : List Int} (hl : fs.length = ws.length) (hs : Smp d fs) (he : es.length = ws.length) (hes : Smp d es) (ha : Alo ws.length fun i => es.getD i 0) {i L : Nat} (e : stL (2 ^ (d - 1)) ws es (i + L) = stL (2 ^ (d - 1)) ws es i) : stL (2 ^ (d - 1)) ws fs (i + L) = stL (2 ^ (d - 1)) ws fs i := by
  have hE := goR_fol (half_pos d) he
  have hR := goR_fol (half_pos d) hl
  have hn := st_next (half_pos d) he hes
  have hon : ∀ t, 0 < ws.length → goR (2 ^ (d - 1)) ws es (i + L + t) = goR (2 ^ (d - 1)) ws es (i + t) := fun t h0 => by
    have := (stL_eq.mp (hn.on e t)) 0 h0
    rw [Nat.zero_add, Nat.zero_add] at this
    exact this
  have key : ∀ k, k ≤ ws.length → ∃ u : Nat → Int, Fol (2 * 2 ^ (d - 1)) ws u ∧ (∀ t, u (i + L + t) = u (i + t)) ∧ ∀ j, j < k → goR (2 ^ (d - 1)) ws fs j = u j := by
    intro k
    induction k with
    | zero =>
      intro _
      refine ⟨fun _ => 0, fun i => ?_, fun _ => rfl, fun j hj => absurd hj (Nat.not_lt_zero j)⟩
      rw [sumN_none fun b _ => Int.mul_zero _]
      exact Int.dvd_zero _
    | succ k ih =>
      intro hk
      obtain ⟨u, u1, u2, u3⟩ := ih (by omega)
      have esh : Fol (2 * 2 ^ (d - 1)) ws fun j => goR (2 ^ (d - 1)) ws es (j + (ws.length - 1 - k)) := fun i => by
        have := hE (i + (ws.length - 1 - k))
        show _ ∣ goR _ ws es (i + ws.length + (ws.length - 1 - k)) - sumN ws.length fun b => ws.getD b 0 * goR _ ws es (i + ws.length - 1 - b + (ws.length - 1 - k))
        rw [show i + ws.length + (ws.length - 1 - k) = i + (ws.length - 1 - k) + ws.length by omega, sumN_congr (g := fun b => ws.getD b 0 * goR (2 ^ (d - 1)) ws es (i + (ws.length - 1 - k) + ws.length - 1 - b)) fun b hb => by rw [show i + ws.length - 1 - b + (ws.length - 1 - k) = i + (ws.length - 1 - k) + ws.length - 1 - b by omega]]
        exact this
      refine ⟨fun j => u j + (u k - goR (2 ^ (d - 1)) ws fs k) * goR (2 ^ (d - 1)) ws es (j + (ws.length - 1 - k)), u1.plus esh _, fun t => ?_, fun j hj => ?_⟩
      · show u (i + L + t) + _ = u (i + t) + _
        rw [u2 t, show i + L + t + (ws.length - 1 - k) = i + L + (t + (ws.length - 1 - k)) by omega, show i + t + (ws.length - 1 - k) = i + (t + (ws.length - 1 - k)) by omega, hon _ (by omega)]
      · show _ = u j + _
        rw [goR_first (fs := es) (by omega)]
        by_cases c : j = k
        · subst c
          rw [show j + (ws.length - 1 - j) = ws.length - 1 by omega, show es.getD (ws.length - 1) 0 = -1 from ha.2 (by omega)]
          omega
        · rw [show es.getD (j + (ws.length - 1 - k)) 0 = 0 from ha.1 _ (by omega), Int.mul_zero, Int.add_zero]
          exact u3 j (by omega)
  obtain ⟨u, u1, u2, u3⟩ := key ws.length (Nat.le_refl _)
  have hz := fol_zero (u1.plus hR (-1)) (p := 0) fun t ht => by
    rw [Nat.zero_add, ← u3 t ht, show ∀ a : Int, a + -1 * a = 0 from fun a => by omega]
    exact Int.dvd_zero _
  rw [stL_eq]
  intro l hl2
  refine near_eq (goR_range (half_pos d) hs _) (goR_range (half_pos d) hs _) ?_
  have a := hz (l + (i + L)) (Nat.zero_le _)
  have b := hz (l + i) (Nat.zero_le _)
  have c := u2 l
  rw [show i + L + l = l + (i + L) by omega, show i + l = l + i by omega] at c
  obtain ⟨x, hx⟩ := a
  obtain ⟨y, hy⟩ := b
  exact ⟨y - x, by rw [Int.mul_sub, ← hx, ← hy, c]; omega⟩
theorem alone_per {d : Nat} (d1 : 1 ≤ d) {ws es fs : List Int} (hl : fs.length = ws.length) (hs : Smp d fs) (he : es.length = ws.length) (hes : Smp d es) (ha : Alo ws.length fun i => es.getD i 0) {hd p hd' p' : Nat} (P : Per (stL (2 ^ (d - 1)) ws es) hd p) (Q : Per (stL (2 ^ (d - 1)) ws fs) hd' p') : hd' ≤ hd ∧ p' ∣ p :=
  Q.2.2 hd p P.1 (alone_leads d1 hl hs he hes ha P.2.1)
end My

namespace My
open PySem PySem.Spec PyProof.Rows L2 Pre
/-! ### the turn of a rule -/
/-- the places of odd weights, from one -/
def oddS (ws : List Int) (i : Nat) : List Nat := ((List.range i).filter fun s => decide (ws.getD s 0 % 2 = 1)).map (· + 1)
theorem oddS_succ (ws : List Int) (i : Nat) : oddS ws (i + 1) = oddS ws i ++ if ws.getD i 0 % 2 = 1 then [i + 1] else [] := by
  unfold oddS
  rw [List.range_succ, List.filter_append, List.map_append]
  by_cases c : ws.getD i 0 % 2 = 1
  · rw [if_pos c, List.filter_cons, if_pos (decide_eq_true c)]
    rfl
  · rw [if_neg c, List.filter_cons, if_neg (by rw [decide_eq_false c]; decide)]
    rfl
theorem oddS_mem {ws : List Int} {i n : Nat} : n ∈ oddS ws i ↔ ∃ s, s < i ∧ ws.getD s 0 % 2 = 1 ∧ n = s + 1 := by
  unfold oddS
  rw [List.mem_map]
  constructor
  · rintro ⟨s, hs, rfl⟩
    have := List.mem_filter.mp hs
    exact ⟨s, List.mem_range.mp this.1, of_decide_eq_true this.2, rfl⟩
  · rintro ⟨s, h1, h2, rfl⟩
    exact ⟨s, List.mem_filter.mpr ⟨List.mem_range.mpr h1, decide_eq_true h2⟩, rfl⟩
theorem oddS_len (ws : List Int) (i : Nat) : (oddS ws i).length ≤ i := by
  unfold oddS
  rw [List.length_map]
  exact Nat.le_trans (List.length_filter_le _ _) (by rw [List.length_range]; exact Nat.le_refl _)
theorem nV_ints (l : List Nat) : nV l = (l.map fun n : Nat => (n : Int)).map V.int := by unfold nV; rw [List.map_map]; rfl
theorem pw_one {q : List Int} (hq : 0 < q.length) {p : Nat} (hp : p < q.length) : redP 2 q [0, 1] p = pwL q 1 p := by
  have z : ∀ p, p < q.length → pwL q 0 p = if p = 0 then 1 else 0 := fun p hp => by
    show redP 2 q [1] p = _
    unfold redP
    rw [show lenP q [1] = q.length by unfold lenP; show max 1 q.length = _; omega, Nat.sub_self]
    show ([1] : List Int).getD p 0 % 2 = _
    cases p with
    | zero => rfl
    | succ p => rfl
  rw [pw_next hq 0 hp, z (q.length - 1) (by omega)]
  unfold redP
  by_cases c : q.length = 1
  · obtain rfl : p = 0 := by omega
    rw [show lenP q [0, 1] = 2 by unfold lenP; show max 2 q.length = _; omega, c]
    show updW 2 q (iniP 2 [0, 1]) 1 q.length 0 = _
    unfold updW
    rw [if_pos ⟨by omega, by omega⟩]
    rfl
  · rw [show lenP q [0, 1] = q.length by unfold lenP; show max 2 q.length = _; omega, Nat.sub_self, if_neg (show ¬ q.length - 1 = 0 by omega), Int.zero_mul, Int.add_zero]
    show ([0, 1] : List Int).getD p 0 % 2 = _
    match p with
    | 0 => rfl
    | 1 => rw [if_neg (by decide), z 0 hq]; rfl
    | p + 2 => rw [if_neg (by omega), z (p + 2 - 1) (by omega), if_neg (by omega)]; rfl
local macro_rules | `(tactic| walk_at "go") => `(tactic| repeat (first | (with_reducible first | refine iteT ?_ | refine iteF ?_ | refine iteNtt ?_ | refine iteNff ?_ | refine iteET (by omega) ?_ | refine iteEF (by omega) ?_ | refine iteENT (by omega) ?_ | refine iteENF (by omega) ?_ | refine iteDT (by omega) ?_ | refine iteDF (by omega) ?_ | refine iteNT (by omega) ?_ | refine iteNF (by omega) ?_) | refine ⟨_, rfl, ?_⟩ | refine ⟨_, _, rfl, rfl, ?_⟩ | refine ⟨_, _, rfl, ?_⟩ | refine ⟨rfl, ?_⟩ | refine .inl ⟨_, rfl, ?_⟩ | refine .inr ⟨_, rfl, ?_⟩))
local macro_rules | `(tactic| walk_at "b") => `(tactic| try dsimp (config := { proj := false, iota := false, eta := false, zeta := false }) only)
section
variable {P : Program} {w : World} {K : PySem.W.Frag} {mg : Str → Option Value} {base : Heap} [pf : Sup.PF P fileS]
def sp_turn_of : Sp := fun vs H Q _ => ∃ (a : Addr) (ws : List Int), vs = [.ref a] ∧ H a = some (.lst (ws.map V.int)) ∧ GoodR ws ∧ ∀ H' T, Same H H' → TurnN ws T → Q (.int (T : Nat)) H'
theorem G_turn_of (T : Top K mg) : FnOk P w K mg base CX0 2 T.f_turn_of T.fd_turn_of ["weights"] sp_turn_of := by
  refine T.F_turn_of.ok sc_turn_of (fun vs H Q E h => by obtain ⟨a, ws, rfl, _⟩ := h; rfl) (fun cdv A outer s H vs Q E hr h => ?_)
  obtain ⟨a, ws, rfl, ha, gw, q⟩ := h
  refine ⟨_, PSs.nox (pss_cons (ps_set (i := 1) sc_turn_of.nd rfl (by first | exact Or.inl rfl | exact Or.inr rfl) (pe_callB (k_max K rfl rfl) (by rfl) T.n_max (by decide +kernel) (pa_cons (pe_op op_cat (pe_lst (pa_cons pe_int pa_nil)) (pe_lc (own := [("spot", 6), ("weight", 7)]) (g := gTup K 2 (gCons (gName 6) (gCons (gName 7) (gNil)))) (by rfl) sc_turn_of.nd (k_piE K rfl (by rfl) T.n_enumerate (pa_cons (pv 0) pa_nil)) (blkOk_by (own := [("spot", 6), ("weight", 7)]) (N := N_turn_of) (sc := defScope s_turn_of) (by decide +kernel)) (fun _ _ _ _ _ => (k_pgT K rfl (by rfl) (pgs_cons (pg_name (i := 6) sc_turn_of.nd rfl (by first | exact Or.inl rfl | exact Or.inr rfl)) (pgs_cons (pg_name (i := 7) sc_turn_of.nd rfl (by first | exact Or.inl rfl | exact Or.inr rfl)) pgs_nil)))) (fun _ _ _ _ _ => (pts_one (pt_cmpR op_eq (pe_op op_mod (pv 7) pe_int) pe_int (nomark _)))) (fun _ _ _ _ _ => (pe_op op_add (pv 6) pe_int)))) pa_nil)))
  (pss_cons (ps_if (pt_cmpR op_eq (pv 1) pe_int (nomark _))
    (pss_one (ps_ret pe_int))
    pss_nil)
  (pss_cons (ps_par (by rfl) sc_turn_of.nd (i := 2) (j := 3) rfl rfl (by decide) rfl rfl (pa_cons (pe_slice (k_slL K rfl) (pv 0) po_none (po_some (pv 1))) (pa_cons pe_int pa_nil)) (by rfl))
  (pss_cons (ps_par (by rfl) sc_turn_of.nd (i := 4) (j := 5) rfl rfl (by decide) rfl rfl (pa_cons (pe_call (G_reduced (P := P) T) (hr.mono (by decide)) (by rfl) T.g_reduced T.F_reduced.kp T.b_reduced .nil pass0 (pa_cons (pv 2) (pa_cons (pe_lst (pa_cons pe_int pa_nil)) (pa_cons pe_int pa_nil)))) (pa_cons (pe_call (G_reduced (P := P) T) (hr.mono (by decide)) (by rfl) T.g_reduced T.F_reduced.kp T.b_reduced .nil pass0 (pa_cons (pv 2) (pa_cons (pe_lst (pa_cons pe_int (pa_cons pe_int pa_nil))) (pa_cons pe_int pa_nil)))) pa_nil)) (by rfl))
  (pss_cons (ps_while PassesOwn.never (pt_cmpR (k_neD K rfl hr.units) (pv 5) (pv 4) (nomark _))
    (pss_one (ps_par (by rfl) sc_turn_of.nd (i := 5) (j := 3) rfl rfl (by decide) rfl rfl (pa_cons (pe_call (G_reduced (P := P) T) (hr.mono (by decide)) (by rfl) T.g_reduced T.F_reduced.kp T.b_reduced .nil pass0 (pa_cons (pv 2) (pa_cons (pe_lst (pa_cons pe_int (StX.pa_star (pv 5) pa_nil))) (pa_cons pe_int pa_nil)))) (pa_cons (pe_op op_add (pv 3) pe_int) pa_nil)) (by rfl))))
  (pss_one (ps_ret (pv 3)))))))), ?_⟩
  have hws := gw.1
  refine ⟨(by show 1 ≤ sizeLine; decide), fun p1 np1 => ?_⟩
  obtain ⟨H1, e1, s1, hp1⟩ := fresh (.lst [V.int 0]) np1
  rw [e1]
  have ha1 := s1 _ _ ha
  refine ⟨_, rfl, a, _, rfl, .inl (.inl ha1), fun D nD => ?_⟩
  have nDH : H D = none := s1.free nD
  refine lc_it (walk_enum (K := K) (a := a) (xs := ws.map V.int)) (fun i H2 => Same H1 H2 ∧ H2 D = some (.lst (nV (oddS ws i)))) ⟨same_upd nD, upd_same⟩ (fun i H2 _ p => .inl (.inl (p.1 _ _ ha1))) ?_ ?_
  · rintro i x H2 H3 hi ⟨s2, hD⟩ ⟨T1, x1, y1, rfl, nT, rfl, ex, ey⟩
    dsimp only at ex ey
    cases ex
    obtain ⟨wi, hwi, rfl⟩ := int_at ey
    have hi' : i < ws.length := by rw [List.length_map] at hi; exact hi
    have ewi : ws.getD i 0 = wi := by rw [List.getD_eq_getElem?_getD, hwi]; rfl
    have sT := same_upd (o := .tup [V.int (i : Int), V.int wi]) nT
    have hD3 := sT _ _ hD
    have s3 := s2.trans sT
    refine ⟨T1, _, rfl, .inl (.inl upd_same), rfl, _, _, rfl, _, _, rfl, rfl, ?_⟩
    refine ⟨rfl, ?_⟩
    refine ⟨_, rfl, _, _, rfl, rfl, (by show (0 : Int) < 2; decide), rfl, _, rfl, ?_⟩
    rw [oddS_succ, ewi]
    have hlt : (oddS ws i).length < sizeLine := Nat.lt_of_le_of_lt (oddS_len ws i) (small4 (by omega))
    by_cases c : wi % 2 = 1
    · refine iteET c ?_
      rw [if_pos c]
      refine ⟨_, rfl, _, _, rfl, rfl, _, hD3, by rw [nV_len]; exact hlt, same_over nD s3, ?_⟩
      rw [upd_same]
      unfold nV
      rw [List.map_append]
      rfl
    · refine iteEF c ?_
      rw [if_neg c, List.append_nil]
      exact ⟨s3, hD3⟩
  · rintro H2 ⟨s2, hD⟩
    rw [List.length_map] at hD
    refine ⟨p1, D, _, _, rfl, rfl, s2 _ _ hp1, hD, by rw [nV_len, sizeLine_eq]; show 1 + _ ≤ _; have := oddS_len ws ws.length; omega, fun p3 np3 => ?_⟩
    obtain ⟨H3, e3, s3, hp3⟩ := fresh (.lst ([V.int 0] ++ nV (oddS ws ws.length))) np3
    rw [e3]
    refine ⟨p3, (0 : Int) :: (oddS ws ws.length).map fun n : Nat => (n : Int), rfl, .inl (.inl (by rw [hp3, nV_ints]; rfl)), Nat.succ_pos _, fun m hm hle => ?_⟩
    have s03 := (s1.trans s2).trans s3
    obtain ⟨n, rfl, hn, hev, hod⟩ : ∃ n : Nat, m = (n : Int) ∧ n ≤ ws.length ∧ (∀ b, n ≤ b → b < ws.length → ws.getD b 0 % 2 = 0) ∧ (0 < n → ws.getD (n - 1) 0 % 2 = 1) := by
      have big : ∀ s, s < ws.length → ws.getD s 0 % 2 = 1 → ((s + 1 : Nat) : Int) ≤ m := fun s h1 h2 => hle _ (List.mem_cons_of_mem _ (List.mem_map.mpr ⟨s + 1, oddS_mem.mpr ⟨s, h1, h2, rfl⟩, rfl⟩))
      have key : ∃ n : Nat, m = (n : Int) ∧ n ≤ ws.length ∧ (0 < n → ws.getD (n - 1) 0 % 2 = 1) := by
        rcases List.mem_cons.mp hm with rfl | h
        · exact ⟨0, rfl, Nat.zero_le _, fun z => absurd z (by decide)⟩
        · obtain ⟨k, hk, rfl⟩ := List.mem_map.mp h
          obtain ⟨s, h1, h2, rfl⟩ := oddS_mem.mp hk
          exact ⟨s + 1, rfl, h1, fun _ => h2⟩
      obtain ⟨n, rfl, h1, h2⟩ := key
      refine ⟨n, rfl, h1, fun b hb hb2 => ?_, h2⟩
      by_cases c : ws.getD b 0 % 2 = 1
      · have := big b hb2 c
        omega
      · omega
    refine ⟨_, rfl, rfl, _, rfl, ?_⟩
    have ha3 := s03 _ _ ha
    by_cases n0 : n = 0
    · subst n0
      refine iteET rfl ?_
      exact (q _ 1 s03 ⟨0, Nat.zero_le _, hev, turn_of (T := 1) fun p hp => absurd hp (by rw [List.take_zero]; exact Nat.not_lt_zero p), Nat.le_refl _, by decide⟩)
    · refine iteEF (by omega) ?_
      refine ⟨_, rfl, _, rfl, _, rfl, a, _, rfl, .inl (.inl ha3), fun p4 np4 => ?_⟩
      rw [cut_take, ← List.map_take]
      obtain ⟨H4, e4, s4, hp4⟩ := fresh (.lst ((ws.take n).map V.int)) np4
      rw [e4]
      have hl : (ws.take n).length = n := by rw [List.length_take]; omega
      have gW : GoodR (ws.take n) := ⟨by omega, fun w hw => gw.2 w (List.mem_of_mem_take hw)⟩
      have ht : Turn (ws.take n) = Turn (ws.take n) := rfl
      have hod' : (ws.take n).getD ((ws.take n).length - 1) 0 % 2 = 1 := by
        rw [hl, List.getD_eq_getElem?_getD, List.getElem?_take, if_pos (by omega), ← List.getD_eq_getElem?_getD]
        exact hod (by omega)
      obtain ⟨T, hT, hT2⟩ := turn_least (q := ws.take n) (by omega) hod'
      have hfin : TurnN ws T := ⟨n, hn, hev, turn_of (pwS_eq.mp (by have := hT.2.1; rw [Nat.zero_add] at this; exact this)), hT.1, by
        have : 2 ^ (ws.take n).length ≤ 2 ^ 8 := Nat.pow_le_pow_right (by decide) (by omega)
        omega⟩
      have hW0 : 0 < (ws.take n).length := by omega
      generalize ws.take n = W at *
      refine ⟨_, _, rfl, ?_⟩
      refine ⟨_, rfl, (by show 1 ≤ sizeLine; decide), fun p5 np5 => ?_⟩
      obtain ⟨H5, e5, s5, hp5⟩ := fresh (.lst [V.int 1]) np5
      rw [e5]
      refine ⟨p4, p5, W, [1], 2, rfl, s5 _ _ hp4, hp5, gW, by decide, by decide, by decide, fun H6 u s6 nu hu => ?_⟩
      refine ⟨_, rfl, (by show 2 ≤ sizeLine; decide), fun p7 np7 => ?_⟩
      obtain ⟨H7, e7, s7, hp7⟩ := fresh (.lst [V.int 0, .int 1]) np7
      rw [e7]
      refine ⟨p4, p7, W, [0, 1], 2, rfl, s7 _ _ (s6 _ _ (s5 _ _ hp4)), hp7, gW, by decide, by decide, by decide, fun H8 r s8 nr hr => ?_⟩
      have hu8 : H8 u = some (.lst ((pwS W 0).map V.int)) := by
        rw [s8 _ _ (s7 _ _ hu), rowZ_ints]
        rfl
      have hr8 : H8 r = some (.lst ((pwS W 1).map V.int)) := by
        rw [hr, rowZ_congr fun p hp => pw_one hW0 hp, rowZ_ints]
        rfl
      have s48 := ((s5.trans s6).trans s7).trans s8
      have s08 := (s03.trans s4).trans s48
      have hp48 := s48 _ _ hp4
      refine ⟨_, _, rfl, ?_⟩
      refine ⟨fun μ σ H9 => ∃ (t : Nat) (p : Addr), μ = T - t ∧ σ = [some (.ref a), some (.int n), some (.ref p4), some (.int t), some (.ref u), some (.ref p), none, none] ∧ Same H8 H9 ∧ H9 p = some (.lst ((pwS W t).map V.int)) ∧ 1 ≤ t ∧ t ≤ T, ⟨T - 1, 1, r, rfl, rfl, Same.refl _, hr8, Nat.le_refl _, hT.1⟩, ?_⟩
      rintro μ σ H9 ⟨t, p, rfl, rfl, s9, hp9, t1, tT⟩
      refine ⟨_, rfl, _, rfl, neD_lst (.inl (.inl hp9)) (.inl (.inl (s9 _ _ hu8))) ?_⟩
      refine ⟨_, rfl, ?_⟩
      by_cases c : pwS W t = pwS W 0
      · refine iteNF c ?_
        have : T ≤ t := hT.2.2 t t1 (by rw [Nat.zero_add]; exact c)
        obtain rfl : t = T := by omega
        exact ⟨_, rfl, q _ _ (s08.trans s9) hfin⟩
      · refine iteNT c ?_
        have hne : t ≠ T := fun z => c (by rw [z]; have := hT.2.1; rw [Nat.zero_add] at this; exact this)
        refine ⟨fun σ H10 => ∃ (p : Addr), σ = [some (.ref a), some (.int n), some (.ref p4), some (.int (t + 1 : Nat)), some (.ref u), some (.ref p), none, none] ∧ Same H8 H10 ∧ H10 p = some (.lst ((pwS W (t + 1)).map V.int)), fun σ' H' ⟨p', h1, h2, h3⟩ => ⟨T - (t + 1), by omega, t + 1, p', rfl, h1, h2, h3, by omega, by omega⟩, ?_⟩
        have hlW : (pwS W t).length = W.length := by unfold pwS; rw [List.length_map, List.length_range]
        refine ⟨_, rfl, _, rfl, p, _, rfl, .inr (.inl (.inl hp9)), by rw [sizeLine_eq]; simp only [List.length_cons, List.length_append, List.length_map, List.length_nil]; omega, fun p10 np10 => ?_⟩
        obtain ⟨H10, e10, s10, hp10⟩ := fresh (.lst (V.int 0 :: ((pwS W t).map V.int ++ []))) np10
        rw [e10]
        have hq : H10 p10 = some (.lst (((0 : Int) :: pwS W t).map V.int)) := by rw [hp10, List.append_nil]; rfl
        refine ⟨p4, p10, W, _, 2, rfl, s10 _ _ (s9 _ _ hp48), hq, gW, by rw [List.length_cons]; omega, by decide, by decide, fun H11 r2 s11 nr2 hr2 => ?_⟩
        refine ⟨_, rfl, _, _, rfl, rfl, ?_⟩
        refine ⟨_, _, rfl, ?_⟩
        refine ⟨r2, rfl, (s9.trans s10).trans s11, ?_⟩
        rw [hr2, rowZ_ints]
        rfl
end
end My

namespace My
open PySem PySem.Spec PyProof.Rows L2 Pre
/-! ### heads and least periods, in a program -/
theorem goR_of {h : Int} (hh : 0 < h) {ws fs : List Int} (hl : fs.length = ws.length) {r : Nat → Int} (hr : Fol (2 * h) ws r) (rr : ∀ i, -h ≤ r i ∧ r i < h) (hf : ∀ i, i < ws.length → fs.getD i 0 = r i) (n : Nat) : goR h ws fs n = r n := by
  have hfs : ∀ x ∈ fs, -h ≤ x ∧ x < h := fun x hx => by
    obtain ⟨i, hi, rfl⟩ := List.mem_iff_getElem.mp hx
    have := hf i (by omega)
    rw [List.getD_eq_getElem?_getD, List.getElem?_eq_getElem hi] at this
    exact (show fs[i] = r i from this) ▸ rr i
  induction n using Nat.strongRecOn with
  | ind n ih =>
    by_cases c : n < ws.length
    · rw [goR_first (by omega), hf n c]
    · obtain ⟨k, rfl⟩ := Nat.le.dest (show ws.length ≤ n by omega)
      have h1 := goR_fol hh hl k
      have h2 := hr k
      have e : sumN ws.length (fun b => ws.getD b 0 * goR h ws fs (k + ws.length - 1 - b)) = sumN ws.length fun b => ws.getD b 0 * r (k + ws.length - 1 - b) := sumN_congr fun b hb => by rw [ih _ (by omega)]
      rw [e] at h1
      have h3 := Int.dvd_sub h1 h2
      rw [show k + ws.length = ws.length + k by omega] at h3
      generalize (sumN ws.length fun b => ws.getD b 0 * r (ws.length + k - 1 - b)) = S at h3
      refine near_eq (goR_range hh hfs _) (rr _) ?_
      rw [show ∀ a b c : Int, a - c - (b - c) = a - b from fun a b c => by omega] at h3
      exact h3
theorem fol_shift {N : Int} {ws : List Int} {r : Nat → Int} (h : Fol N ws r) (n : Nat) : Fol N ws fun i => r (n + i) := fun i => by
  have := h (n + i)
  show N ∣ r (n + (i + ws.length)) - sumN ws.length fun b => ws.getD b 0 * r (n + (i + ws.length - 1 - b))
  rw [show n + (i + ws.length) = n + i + ws.length by omega, sumN_congr (g := fun b => ws.getD b 0 * r (n + i + ws.length - 1 - b)) fun b hb => by rw [show n + (i + ws.length - 1 - b) = n + i + ws.length - 1 - b by omega]]
  exact this
/-- the row from a far state -/
theorem goR_far {d : Nat} {ws fs : List Int} (hl : fs.length = ws.length) (hs : Smp d fs) (a n : Nat) : goR (2 ^ (d - 1)) ws (stL (2 ^ (d - 1)) ws fs a) n = goR (2 ^ (d - 1)) ws fs (a + n) :=
  goR_of (half_pos d) (stL_len _ _ _ _) (fol_shift (goR_fol (half_pos d) hl) a) (fun i => goR_range (half_pos d) hs _) (fun i hi => by
    unfold stL
    rw [List.getD_eq_getElem?_getD, List.getElem?_map, List.getElem?_range hi, Nat.add_comm a i]
    rfl) n
theorem stL_far {d : Nat} {ws fs : List Int} (hl : fs.length = ws.length) (hs : Smp d fs) (a n : Nat) : stL (2 ^ (d - 1)) ws (stL (2 ^ (d - 1)) ws fs a) n = stL (2 ^ (d - 1)) ws fs (a + n) := by
  unfold stL
  exact List.map_congr_left fun l _ => by
    show goR _ ws (stL (2 ^ (d - 1)) ws fs a) (l + n) = _
    rw [goR_far hl hs, show a + (l + n) = l + (a + n) by omega]
theorem stL_smp {d : Nat} {ws fs : List Int} (hs : Smp d fs) (a : Nat) : Smp d (stL (2 ^ (d - 1)) ws fs a) := fun x hx => by
  unfold stL at hx
  obtain ⟨l, _, rfl⟩ := List.mem_map.mp hx
  exact goR_range (half_pos d) hs _
theorem stL_row {h : Int} {ws fs : List Int} {n : Nat} : rowZ ws.length (fun l => goR h ws fs (l + n)) = (stL h ws fs n).map V.int := rowZ_ints _ _
theorem mem_prodN {q : Nat} : ∀ {l : List Nat}, q ∈ l → q ∣ prodN l
  | a :: r, h => by
    rcases List.mem_cons.mp h with rfl | h
    · exact Nat.dvd_mul_right _ _
    · exact Nat.dvd_trans (mem_prodN h) (Nat.dvd_mul_left _ _)
theorem nV_at {l : List Nat} {i : Nat} {x : V} (h : (nV l)[i]? = some x) : ∃ n, l[i]? = some n ∧ x = .int (n : Int) := by
  unfold nV at h
  rw [List.getElem?_map] at h
  cases e : l[i]? with
  | none => rw [e] at h; cases h
  | some n => rw [e] at h; exact ⟨n, rfl, (Option.some.inj h).symm⟩
theorem drop_at {α : Type} {l : List α} {i : Nat} {x : α} (h : l[i]? = some x) : l.drop i = x :: l.drop (i + 1) := by
  obtain ⟨hi, rfl⟩ := List.getElem?_eq_some_iff.mp h
  exact List.drop_eq_getElem_cons hi
/-- a row and its rule, in a heap -/
def RowAt (H : Hp) (d : Nat) (a b : Addr) (ws fs : List Int) : Prop := H a = some (.lst (ws.map V.int)) ∧ H b = some (.lst (fs.map V.int)) ∧ GoodR ws ∧ fs.length = ws.length ∧ 1 ≤ d ∧ d ≤ 24 ∧ Smp d fs
local macro_rules | `(tactic| walk_at "go") => `(tactic| repeat (first | (with_reducible first | refine iteT ?_ | refine iteF ?_ | refine iteNtt ?_ | refine iteNff ?_ | refine iteET (by omega) ?_ | refine iteEF (by omega) ?_ | refine iteENT (by omega) ?_ | refine iteENF (by omega) ?_ | refine iteDT (by omega) ?_ | refine iteDF (by omega) ?_ | refine iteNT (by omega) ?_ | refine iteNF (by omega) ?_) | refine ⟨_, rfl, ?_⟩ | refine ⟨_, _, rfl, rfl, ?_⟩ | refine ⟨_, _, rfl, ?_⟩ | refine ⟨rfl, ?_⟩ | refine .inl ⟨_, rfl, ?_⟩ | refine .inr ⟨_, rfl, ?_⟩))
local macro_rules | `(tactic| walk_at "b") => `(tactic| try dsimp (config := { proj := false, iota := false, eta := false, zeta := false }) only)
section
variable {P : Program} {w : World} {K : PySem.W.Frag} {mg : Str → Option Value} {base : Heap} [pf : Sup.PF P fileS]
def sp_head_of : Sp := fun vs H Q _ => ∃ (a b : Addr) (d : Nat) (ws fs : List Int) (L hd : Nat), vs = [.int d, .ref a, .ref b, .int L] ∧ RowAt H d a b ws fs ∧ Head (stL (2 ^ (d - 1)) ws fs) L hd ∧ hd ≤ ws.length * d ∧ ∀ H', Same H H' → Q (.int (hd : Nat)) H'
theorem G_head_of (T : Top K mg) : FnOk P w K mg base CX0 4 T.f_head_of T.fd_head_of ["depth", "weights", "firsts", "length"] sp_head_of := by
  refine T.F_head_of.ok sc_head_of (fun vs H Q E h => by obtain ⟨a, b, d, ws, fs, L, hd, rfl, _⟩ := h; rfl) (fun cdv A outer s H vs Q E hr h => ?_)
  obtain ⟨a, b, d, ws, fs, L, hd, rfl, ⟨ha, hb, gw, hl, d1, d2, hs⟩, hH, hle, q⟩ := h
  refine ⟨_, PSs.nox (pss_cons (ps_par (by rfl) sc_head_of.nd (i := 4) (j := 5) rfl rfl (by decide) rfl rfl (pa_cons pe_int (pa_cons (pe_op op_mul (pe_callB (k_len K rfl) (by rfl) T.n_len (by decide +kernel) (pa_cons (pv 1) pa_nil)) (pv 0)) pa_nil)) (by rfl))
  (pss_cons (ps_while PassesOwn.never (pt_cmpR op_lt (pv 4) (pv 5) (nomark _))
    (pss_cons (ps_set (i := 6) sc_head_of.nd rfl (by first | exact Or.inl rfl | exact Or.inr rfl) (pe_op op_fdivW (pe_op op_add (pv 4) (pv 5)) pe_int))
  (pss_one (ps_if (pt_cmpR (k_eqD K rfl hr.units) (pe_call (G_state_at (P := P) T) (hr.mono (by decide)) (by rfl) T.g_state_at T.F_state_at.kp T.b_state_at .nil pass0 (pa_cons (pv 0) (pa_cons (pv 1) (pa_cons (pv 2) (pa_cons (pv 6) pa_nil))))) (pe_call (G_state_at (P := P) T) (hr.mono (by decide)) (by rfl) T.g_state_at T.F_state_at.kp T.b_state_at .nil pass0 (pa_cons (pv 0) (pa_cons (pv 1) (pa_cons (pv 2) (pa_cons (pe_op op_add (pv 6) (pv 3)) pa_nil))))) (nomark _))
    (pss_one (ps_set (i := 5) sc_head_of.nd rfl (by first | exact Or.inl rfl | exact Or.inr rfl) (pv 6)))
    (pss_one (ps_set (i := 4) sc_head_of.nd rfl (by first | exact Or.inl rfl | exact Or.inr rfl) (pe_op op_add (pv 6) pe_int)))))))
  (pss_one (ps_ret (pv 4))))), ?_⟩
  have hws := gw.1
  have hN := st_next (half_pos d) hl hs
  have hmul : ((ws.length : Nat) : Int) * (d : Int) = ((ws.length * d : Nat) : Int) := (Int.natCast_mul _ _).symm
  have hld : ws.length * d ≤ 8 * 24 := Nat.mul_le_mul hws d2
  refine ⟨_, rfl, a, _, rfl, .inl (.inl (.inl ha)), _, rfl, _, _, rfl, rfl, .inl ⟨by rw [List.length_map]; omega, by rw [List.length_map]; omega⟩, ?_⟩
  refine ⟨_, _, rfl, ?_⟩
  dsimp only
  rw [List.length_map, hmul]
  generalize ws.length * d = B at *
  refine ⟨fun μ σ H2 => ∃ (lo hi : Nat) (v6 : Option V), μ = hi - lo ∧ σ = [some (.int d), some (.ref a), some (.ref b), some (.int L), some (.int (lo : Nat)), some (.int (hi : Nat)), v6] ∧ Same H H2 ∧ lo ≤ hd ∧ hd ≤ hi ∧ hi ≤ B, ⟨B, 0, B, none, rfl, rfl, Same.refl _, Nat.zero_le _, hle, Nat.le_refl _⟩, ?_⟩
  rintro μ σ H2 ⟨lo, hi, v6, rfl, rfl, s2, l1, l2, l3⟩
  refine ⟨_, rfl, _, rfl, _, _, rfl, rfl, _, rfl, ?_⟩
  by_cases c : lo < hi
  · refine iteDT (by omega) ?_
    refine ⟨fun σ H3 => ∃ (lo' hi' : Nat) (v6 : Option V), hi' - lo' < hi - lo ∧ σ = [some (.int d), some (.ref a), some (.ref b), some (.int L), some (.int (lo' : Nat)), some (.int (hi' : Nat)), v6] ∧ Same H H3 ∧ lo' ≤ hd ∧ hd ≤ hi' ∧ hi' ≤ B, fun σ' H' ⟨lo', hi', v6, h0, h⟩ => ⟨_, h0, lo', hi', v6, rfl, h⟩, ?_⟩
    refine ⟨_, rfl, _, rfl, _, _, rfl, rfl, _, _, rfl, rfl, ⟨by decide, by decide +kernel⟩, ?_⟩
    dsimp only
    rw [show (((lo : Nat) : Int) + ((hi : Nat) : Int)) / 2 = (((lo + hi) / 2 : Nat) : Int) by omega]
    generalize em : (lo + hi) / 2 = m
    have m1 : lo ≤ m := by omega
    have m2 : m < hi := by omega
    refine ⟨_, rfl, _, rfl, _, rfl, _, rfl, a, b, d, ws, fs, m, rfl, s2 _ _ ha, s2 _ _ hb, gw, hl, d1, d2, hs, fun H3 p3 s3 hp3 => ?_⟩
    have s03 := s2.trans s3
    refine ⟨_, rfl, _, rfl, _, rfl, _, rfl, _, rfl, _, _, rfl, rfl, a, b, d, ws, fs, m + L, rfl, s03 _ _ ha, s03 _ _ hb, gw, hl, d1, d2, hs, fun H4 p4 s4 hp4 => ?_⟩
    have s04 := s03.trans s4
    rw [stL_row] at hp3 hp4
    refine eqD_lst (.inl (.inl (s4 _ _ hp3))) (.inl (.inl hp4)) ?_
    refine ⟨_, rfl, ?_⟩
    by_cases e : stL (2 ^ (d - 1)) ws fs m = stL (2 ^ (d - 1)) ws fs (m + L)
    · have := (hH.iff hN m).mp e.symm
      refine iteDT e ?_
      refine ⟨_, rfl, lo, m, _, by omega, rfl, s04, l1, this, by omega⟩
    · have : m < hd := Nat.lt_of_not_le fun z => e ((hH.iff hN m).mpr z).symm
      refine iteDF e ?_
      refine ⟨_, rfl, _, _, rfl, rfl, m + 1, hi, _, by omega, rfl, s04, this, l2, l3⟩
  · refine iteDF (by omega) ?_
    obtain rfl : lo = hd := by omega
    exact ⟨_, rfl, q _ s2⟩
def sp_period_of : Sp := fun vs H Q _ => ∃ (a b : Addr) (d : Nat) (ws fs : List Int), vs = [.int d, .ref a, .ref b] ∧ RowAt H d a b ws fs ∧ ∀ H' t hd p, Same H H' → H' t = some (.tup [.int (hd : Nat), .int (p : Nat)]) → Per (stL (2 ^ (d - 1)) ws fs) hd p → hd ≤ ws.length * d → p ≤ 2 ^ 31 → Q (.ref t) H'
theorem G_period_of (T : Top K mg) : FnOk P w K mg base CX0 5 T.f_period_of T.fd_period_of ["depth", "weights", "firsts"] sp_period_of := by
  refine T.F_period_of.ok sc_period_of (fun vs H Q E h => by obtain ⟨a, b, d, ws, fs, rfl, _⟩ := h; rfl) (fun cdv A outer s H vs Q E hr h => ?_)
  obtain ⟨a, b, d, ws, fs, rfl, ⟨ha, hb, gw, hl, d1, d2, hs⟩, q⟩ := h
  refine ⟨_, PSs.nox (pss_cons (ps_if (pt_cmpR (k_eqD K rfl hr.units) (pv 1) (pe_lst pa_nil) (nomark _))
    (pss_one (ps_ret (pe_tup (pa_cons pe_int (pa_cons pe_int pa_nil)))))
    pss_nil)
  (pss_cons (ps_par (by rfl) sc_period_of.nd (i := 4) (j := 5) rfl rfl (by decide) rfl rfl (pa_cons (pe_call (G_state_at (P := P) T) (hr.mono (by decide)) (by rfl) T.g_state_at T.F_state_at.kp T.b_state_at .nil pass0 (pa_cons (pv 0) (pa_cons (pv 1) (pa_cons (pv 2) (pa_cons (pe_op op_mul (pe_callB (k_len K rfl) (by rfl) T.n_len (by decide +kernel) (pa_cons (pv 1) pa_nil)) (pv 0)) pa_nil))))) (pa_cons (pe_op op_mul (pe_call (G_turn_of (P := P) T) (hr.mono (by decide)) (by rfl) T.g_turn_of T.F_turn_of.kp T.b_turn_of .nil pass0 (pa_cons (pv 1) pa_nil)) (pe_op op_shl pe_int (pe_op op_sub (pv 0) pe_int))) pa_nil)) (by rfl))
  (pss_cons (ps_for PassesOwn.never rfl (k_piL K rfl (pe_call (G_factors_of (P := P) T) (hr.mono (by decide)) (by rfl) T.g_factors_of T.F_factors_of.kp T.b_factors_of .nil pass0 (pa_cons (pv 5) pa_nil))) (pg_name (i := 3) sc_period_of.nd rfl (by first | exact Or.inl rfl | exact Or.inr rfl))
    (pss_one (ps_if (pt_cmpR (k_eqD K rfl hr.units) (pe_call (G_state_at (P := P) T) (hr.mono (by decide)) (by rfl) T.g_state_at T.F_state_at.kp T.b_state_at .nil pass0 (pa_cons (pv 0) (pa_cons (pv 1) (pa_cons (pv 4) (pa_cons (pe_op op_fdivW (pv 5) (pv 3)) pa_nil))))) (pv 4) (nomark _))
    (pss_one (ps_set (i := 5) sc_period_of.nd rfl (by first | exact Or.inl rfl | exact Or.inr rfl) (pe_op op_fdivW (pv 5) (pv 3))))
    pss_nil)))
  (pss_one (ps_ret (pe_tup (pa_cons (pe_call (G_head_of (P := P) T) (hr.mono (by decide)) (by rfl) T.g_head_of T.F_head_of.kp T.b_head_of .nil pass0 (pa_cons (pv 0) (pa_cons (pv 1) (pa_cons (pv 2) (pa_cons (pv 5) pa_nil))))) (pa_cons (pv 5) pa_nil)))))))), ?_⟩
  have hws := gw.1
  have hN := st_next (half_pos d) hl hs
  have hmul : ((ws.length : Nat) : Int) * (d : Int) = ((ws.length * d : Nat) : Int) := (Int.natCast_mul _ _).symm
  have hld : ws.length * d ≤ 8 * 24 := Nat.mul_le_mul hws d2
  refine ⟨_, rfl, (by show 0 ≤ sizeLine; decide), fun p1 np1 => ?_⟩
  obtain ⟨H1, e1, s1, hp1⟩ := fresh (.lst ([] : List V)) np1
  rw [e1]
  refine eqD_lst (ms := []) (.inl (.inl (s1 _ _ ha))) (.inl (.inl hp1)) ?_
  refine ⟨_, rfl, ?_⟩
  by_cases w0 : ws = []
  · subst w0
    refine iteDT rfl ?_
    refine ⟨(by show 2 ≤ sizeLine; decide), fun t nt => ?_⟩
    obtain ⟨H2, e2, s2, ht⟩ := fresh (.tup [V.int 0, .int 1]) nt
    rw [e2]
    exact q _ t 0 1 (s1.trans s2) ht ⟨Nat.le_refl _, rfl, fun i L _ _ => ⟨Nat.zero_le _, Nat.one_dvd _⟩⟩ (Nat.zero_le _) (by decide)
  · refine iteDF w0 ?_
    refine ⟨_, rfl, _, rfl, _, rfl, _, rfl, a, _, rfl, .inl (.inl (.inl (s1 _ _ ha))), _, rfl, _, _, rfl, rfl, .inl ⟨by rw [List.length_map]; omega, by rw [List.length_map]; omega⟩, a, b, d, ws, fs, ws.length * d, by dsimp only; rw [List.length_map, hmul]; rfl, s1 _ _ ha, s1 _ _ hb, gw, hl, d1, d2, hs, fun H2 f s2 hf => ?_⟩
    rw [stL_row] at hf
    have s02 := s1.trans s2
    refine ⟨_, rfl, a, ws, rfl, s02 _ _ ha, gw, fun H3 T s3 hT => ?_⟩
    have s03 := s02.trans s3
    have hf3 := s3 _ _ hf
    have hTT := hT
    obtain ⟨_, _, _, _, T1, T2⟩ := hTT
    have hback := far_back d1 hl hs hT
    have p2 : 2 ^ (d - 1) ≤ 2 ^ 23 := Nat.pow_le_pow_right (by decide) (by omega)
    have p1' : 1 ≤ 2 ^ (d - 1) := Nat.one_le_two_pow
    have L31 : T * 2 ^ (d - 1) ≤ 2 ^ 31 := Nat.le_trans (Nat.mul_le_mul T2 p2) (by decide)
    have L1 : 1 ≤ T * 2 ^ (d - 1) := Nat.mul_pos T1 p1'
    have hpw : (1 * 2 ^ (((d : Nat) : Int) - 1).toNat : Int) = ((2 ^ (d - 1) : Nat) : Int) := by rw [show (((d : Nat) : Int) - 1).toNat = d - 1 by omega, Int.one_mul]; exact (Int.natCast_pow 2 (d - 1)).symm
    refine ⟨_, rfl, _, _, rfl, rfl, _, _, rfl, rfl, ⟨by omega, by omega, by decide⟩, ?_⟩
    dsimp only
    rw [hpw]
    refine ⟨_, _, rfl, rfl, .inl ⟨by omega, by omega⟩, ?_⟩
    refine ⟨_, _, rfl, ?_⟩
    dsimp only
    rw [← Int.natCast_mul]
    generalize eA : ws.length * d = A at *
    generalize T * 2 ^ (d - 1) = L at *
    obtain ⟨p, hp⟩ := least_any _ A L L1 hback
    obtain ⟨c0, hc0⟩ := (hp.iff hN L).mp hback
    obtain ⟨hd, hdA, hH⟩ := head_any _ p A hp.2.1
    have hper := per_of hN hp hH
    have hpL : p ≤ 2 ^ 31 := Nat.le_trans (hp.2.2 L L1 hback) L31
    have hfl : (stL (2 ^ (d - 1)) ws fs A).length = ws.length := stL_len _ _ _ _
    have hfs := stL_smp (ws := ws) hs A
    walk_at "b"
    refine ⟨_, rfl, L, rfl, L1, by omega, fun H4 u qs nu s4 hu hpr hprod => ?_⟩
    have hf4 := s4 _ _ hf3
    have s04 := s03.trans s4
    have hpos : ∀ (i q0 : Nat), qs[i]? = some q0 → 2 ≤ q0 ∧ q0 ≤ 2 ^ 31 := fun i q0 hq => by
      have hm := List.mem_of_getElem? hq
      refine ⟨(hpr q0 hm).1, Nat.le_trans (Nat.le_of_dvd L1 ?_) L31⟩
      rw [← hprod]
      exact mem_prodN hm
    refine ⟨u, rfl, ⟨_, .inl (.inl hu)⟩, for_list (K := K) (a := u) (fun i σ HE => ∃ (v3 : Option V) (c : Nat), σ = [some (.int d), some (.ref a), some (.ref b), v3, some (.ref f), some (.int (c : Nat))] ∧ Same H4 HE ∧ takeF (stL (2 ^ (d - 1)) ws fs) A c (qs.drop i) = p ∧ c ≤ 2 ^ 31) ⟨none, L, rfl, Same.refl _, ?_, L31⟩ (fun i σ HE _ ⟨_, _, _, s, _⟩ => .inl (.inl (s _ _ hu))) ?_ ?_⟩
    · have := take_least hN hp qs 1 c0 hpr (by rw [hprod, Nat.one_mul]; exact hc0) (by rw [hprod, hc0]; exact Nat.dvd_mul_left c0 p)
      rw [hprod, Nat.one_mul] at this
      exact this
    · rintro i x σ HE hx ⟨v3, c, rfl, sE, ht, hc⟩
      obtain ⟨q0, hq0, rfl⟩ := nV_at hx
      obtain ⟨q2, q31⟩ := hpos i q0 hq0
      have hdr : qs.drop i = q0 :: qs.drop (i + 1) := drop_at hq0
      rw [hdr] at ht
      have hcd : ((c : Nat) : Int) / ((q0 : Nat) : Int) = ((c / q0 : Nat) : Int) := (Int.natCast_ediv c q0).symm
      have s0E := s04.trans sE
      refine ⟨_, rfl, _, rfl, _, rfl, _, rfl, _, rfl, _, _, rfl, rfl, wide_div (b := 60) (by omega) (by omega) (by decide) (by decide), a, f, d, ws, stL (2 ^ (d - 1)) ws fs A, c / q0, by dsimp only; rw [hcd]; rfl, s0E _ _ ha, sE _ _ hf4, gw, hfl, d1, d2, hfs, fun H5 r s5 hr => ?_⟩
      rw [stL_row, stL_far hl hs] at hr
      refine ⟨_, rfl, eqD_lst (.inl (.inl hr)) (.inl (.inl (s5 _ _ (sE _ _ hf4)))) ?_⟩
      refine ⟨_, rfl, ?_⟩
      have ht' : takeF (stL (2 ^ (d - 1)) ws fs) A (if stL (2 ^ (d - 1)) ws fs (A + c / q0) = stL (2 ^ (d - 1)) ws fs A then c / q0 else c) (qs.drop (i + 1)) = p := ht
      by_cases e : stL (2 ^ (d - 1)) ws fs (A + c / q0) = stL (2 ^ (d - 1)) ws fs A
      · refine iteDT e ?_
        rw [if_pos e] at ht'
        refine ⟨_, rfl, _, rfl, _, _, rfl, rfl, wide_div (b := 60) (by omega) (by omega) (by decide) (by decide), ?_⟩
        dsimp only
        rw [hcd]
        exact ⟨_, c / q0, rfl, sE.trans s5, ht', Nat.le_trans (Nat.div_le_self _ _) hc⟩
      · refine iteDF e ?_
        rw [if_neg e] at ht'
        exact ⟨_, c, rfl, sE.trans s5, ht', hc⟩
    · rintro σ HE ⟨v3, c, rfl, sE, ht, hc⟩
      rw [nV_len, List.drop_length] at ht
      obtain rfl : c = p := ht
      have s0E := s04.trans sE
      refine ⟨_, rfl, _, rfl, _, rfl, _, rfl, a, b, d, ws, fs, c, hd, rfl, ⟨s0E _ _ ha, s0E _ _ hb, gw, hl, d1, d2, hs⟩, hH, (by rw [eA]; exact hdA), fun H5 s5 => ?_⟩
      refine ⟨_, rfl, (by show 2 ≤ sizeLine; decide), fun t nt => ?_⟩
      obtain ⟨H6, e6, s6, ht6⟩ := fresh (.tup [V.int hd, .int c]) nt
      rw [e6]
      exact q _ t hd c ((s0E.trans s5).trans s6) ht6 hper hdA hpL
def sp_last_alone : Sp := fun vs H Q _ => ∃ (a : Addr) (ws : List Int), vs = [.ref a] ∧ H a = some (.lst (ws.map V.int)) ∧ ws.length ≤ 8 ∧ ∀ H' p es, Same H H' → H p = none → H' p = some (.lst (es.map V.int)) → es.length = ws.length → (Alo ws.length fun i => es.getD i 0) → (∀ d, 1 ≤ d → Smp d es) → Q (.ref p) H'
theorem G_last_alone (T : Top K mg) : FnOk P w K mg base CX0 1 T.f_last_alone T.fd_last_alone ["weights"] sp_last_alone := by
  refine T.F_last_alone.ok sc_last_alone (fun vs H Q E h => by obtain ⟨a, ws, rfl, _⟩ := h; rfl) (fun cdv A outer s H vs Q E hr h => ?_)
  obtain ⟨a, ws, rfl, ha, hws, q⟩ := h
  refine ⟨_, PSs.nox (pss_one (ps_ret (pe_op op_cat (pe_op op_rep (pe_lst (pa_cons pe_int pa_nil)) (pe_op op_sub (pe_callB (k_len K rfl) (by rfl) T.n_len (by decide +kernel) (pa_cons (pv 0) pa_nil)) pe_int)) (pe_op op_rep (pe_lst (pa_cons (pe_un un_neg pe_int) pa_nil)) (pe_callB (call_min2 rfl) (by rfl) T.n_min (by decide +kernel) (pa_cons (pe_callB (k_len K rfl) (by rfl) T.n_len (by decide +kernel) (pa_cons (pv 0) pa_nil)) (pa_cons pe_int pa_nil))))))), ?_⟩
  refine ⟨(by show 1 ≤ sizeLine; decide), fun p1 np1 => ?_⟩
  obtain ⟨H1, e1, s1, hp1⟩ := fresh (.lst [V.int 0]) np1
  rw [e1]
  refine ⟨_, rfl, a, _, rfl, .inl (.inl (.inl (s1 _ _ ha))), _, _, rfl, rfl, ?_⟩
  dsimp only
  rw [List.length_map]
  refine ⟨p1, _, _, rfl, rfl, hp1, by omega, by omega, by rw [sizeLine_eq]; show 1 * _ ≤ _; omega, fun p2 np2 => ?_⟩
  rw [show (((ws.length : Nat) : Int) - 1).toNat = ws.length - 1 by omega, rep_int]
  obtain ⟨H2, e2, s2, hp2⟩ := fresh (.lst ((List.replicate (ws.length - 1) (0 : Int)).map V.int)) np2
  rw [e2]
  refine ⟨_, rfl, (by show 1 ≤ sizeLine; decide), fun p3 np3 => ?_⟩
  obtain ⟨H3, e3, s3, hp3⟩ := fresh (.lst [V.int (-1)]) np3
  rw [e3]
  have s03 := (s1.trans s2).trans s3
  refine ⟨_, rfl, a, _, rfl, .inl (.inl (.inl (s03 _ _ ha))), _, _, rfl, ?_⟩
  rw [List.length_map]
  refine ⟨p3, _, _, rfl, rfl, hp3, by split <;> omega, by split <;> omega, by rw [sizeLine_eq]; show 1 * _ ≤ _; split <;> omega, fun p4 np4 => ?_⟩
  rw [show (if (1 : Int) < ((ws.length : Nat) : Int) then (1 : Int) else ((ws.length : Nat) : Int)).toNat = min ws.length 1 by split <;> omega, rep_int]
  obtain ⟨H4, e4, s4, hp4⟩ := fresh (.lst ((List.replicate (min ws.length 1) (-1 : Int)).map V.int)) np4
  rw [e4]
  refine ⟨p2, p4, _, _, rfl, rfl, s4 _ _ (s3 _ _ hp2), hp4, by rw [List.length_map, List.length_map, List.length_replicate, List.length_replicate, sizeLine_eq]; omega, fun p5 np5 => ?_⟩
  rw [← List.map_append]
  obtain ⟨H5, e5, s5, hp5⟩ := fresh (.lst ((List.replicate (ws.length - 1) (0 : Int) ++ List.replicate (min ws.length 1) (-1)).map V.int)) np5
  rw [e5]
  have el : ∀ p, p + 1 < ws.length → (List.replicate (ws.length - 1) (0 : Int) ++ List.replicate (min ws.length 1) (-1)).getD p 0 = 0 := fun p hp => by
    rw [List.getD_eq_getElem?_getD, List.getElem?_append_left (by rw [List.length_replicate]; omega), List.getElem?_replicate, if_pos (by omega)]
    rfl
  refine q _ p5 _ ((s03.trans s4).trans s5) ((s03.trans s4).free np5) hp5 (by rw [List.length_append, List.length_replicate, List.length_replicate]; omega) ⟨el, fun h0 => ?_⟩ fun d d1 x hx => ?_
  · show (List.replicate (ws.length - 1) (0 : Int) ++ List.replicate (min ws.length 1) (-1)).getD (ws.length - 1) 0 = -1
    rw [List.getD_eq_getElem?_getD, List.getElem?_append_right (by rw [List.length_replicate]; exact Nat.le_refl _), List.length_replicate, Nat.sub_self, List.getElem?_replicate, if_pos (by omega)]
    rfl
  · have := half_pos d
    rcases List.mem_append.mp hx with h | h <;> have := (List.mem_replicate.mp h).2 <;> omega
end
end My

namespace My
/-! ### how many there are -/
def Card {α : Type} (P : α → Prop) (n : Nat) : Prop := ∃ l : List α, l.Nodup ∧ (∀ x, x ∈ l ↔ P x) ∧ l.length = n
theorem nodup_le {α : Type} [DecidableEq α] : ∀ {l k : List α}, l.Nodup → (∀ x ∈ l, x ∈ k) → l.length ≤ k.length
  | [], _, _, _ => Nat.zero_le _
  | x :: r, k, h, s => by
    have hx := s x List.mem_cons_self
    have h' := List.nodup_cons.mp h
    have := nodup_le (l := r) (k := k.erase x) h'.2 fun y hy => (List.mem_erase_of_ne fun e => h'.1 (by rw [← e]; exact hy)).mpr (s y (List.mem_cons_of_mem _ hy))
    rw [List.length_erase_of_mem hx] at this
    have := List.length_pos_of_mem hx
    show r.length + 1 ≤ _
    omega
theorem nodup_map {α β : Type} {l : List α} (h : l.Nodup) {f : α → β} (inj : ∀ x ∈ l, ∀ y ∈ l, f x = f y → x = y) : (l.map f).Nodup := by
  induction l with
  | nil => exact List.nodup_nil
  | cons x r ih =>
    have h' := List.nodup_cons.mp h
    rw [List.map_cons, List.nodup_cons]
    refine ⟨fun hm => ?_, ih h'.2 fun a ha b hb => inj a (List.mem_cons_of_mem _ ha) b (List.mem_cons_of_mem _ hb)⟩
    obtain ⟨y, hy, e⟩ := List.mem_map.mp hm
    rw [← inj y (List.mem_cons_of_mem _ hy) x List.mem_cons_self e] at h'
    exact h'.1 hy
/-- told by a map that keeps unlike ones unlike -/
theorem Card.le {α β : Type} [DecidableEq β] {P : α → Prop} {Q : β → Prop} {n m : Nat} (hp : Card P n) (hq : Card Q m) (f : α → β) (to : ∀ x, P x → Q (f x)) (inj : ∀ x y, P x → P y → f x = f y → x = y) : n ≤ m := by
  obtain ⟨l, l1, l2, rfl⟩ := hp
  obtain ⟨k, k1, k2, rfl⟩ := hq
  rw [← List.length_map (f := f)]
  refine nodup_le (nodup_map l1 fun x hx y hy => inj x y ((l2 x).mp hx) ((l2 y).mp hy)) fun y hy => ?_
  obtain ⟨x, hx, rfl⟩ := List.mem_map.mp hy
  exact (k2 _).mpr (to x ((l2 x).mp hx))
theorem Card.eq {α β : Type} [DecidableEq α] [DecidableEq β] {P : α → Prop} {Q : β → Prop} {n m : Nat} (hp : Card P n) (hq : Card Q m) (f : α → β) (g : β → α) (to : ∀ x, P x → Q (f x)) (inj : ∀ x y, P x → P y → f x = f y → x = y) (back : ∀ y, Q y → P (g y)) (inj2 : ∀ x y, Q x → Q y → g x = g y → x = y) : n = m :=
  Nat.le_antisymm (hp.le hq f to inj) (hq.le hp g back inj2)
theorem Card.uniq {α : Type} [DecidableEq α] {P : α → Prop} {n m : Nat} (a : Card P n) (b : Card P m) : n = m := a.eq b id id (fun _ h => h) (fun _ _ _ _ h => h) (fun _ h => h) fun _ _ _ _ h => h
theorem Card.iff {α : Type} {P Q : α → Prop} {n : Nat} (a : Card P n) (h : ∀ x, P x ↔ Q x) : Card Q n := by
  obtain ⟨l, l1, l2, l3⟩ := a
  exact ⟨l, l1, fun x => (l2 x).trans (h x), l3⟩
/-- a decidable part of a finite many -/
theorem Card.part {α : Type} {P : α → Prop} {n : Nat} (a : Card P n) (q : α → Bool) : ∃ m, Card (fun x => P x ∧ q x = true) m ∧ m ≤ n := by
  obtain ⟨l, l1, l2, rfl⟩ := a
  refine ⟨(l.filter q).length, ⟨l.filter q, l1.filter q, fun x => ?_, rfl⟩, List.length_filter_le _ _⟩
  rw [List.mem_filter, l2]
/-- whole numbers from a number on -/
theorem card_span (lo : Int) (n : Nat) : Card (fun x : Int => lo ≤ x ∧ x < lo + n) n := by
  refine ⟨(List.range n).map fun i : Nat => lo + i, nodup_map List.nodup_range fun x _ y _ e => by omega, fun x => ?_, by rw [List.length_map, List.length_range]⟩
  rw [List.mem_map]
  constructor
  · rintro ⟨i, hi, rfl⟩
    have := List.mem_range.mp hi
    omega
  · intro h
    exact ⟨(x - lo).toNat, List.mem_range.mpr (by omega), by omega⟩
/-- lists, first and rest -/
theorem card_cons {P : Int → Prop} {Q : List Int → Prop} {n m : Nat} (hp : Card P n) (hq : Card Q m) : Card (fun l : List Int => ∃ x r, l = x :: r ∧ P x ∧ Q r) (n * m) := by
  obtain ⟨l, l1, l2, rfl⟩ := hp
  obtain ⟨k, k1, k2, rfl⟩ := hq
  refine ⟨l.flatMap fun x => k.map fun r => x :: r, ?_, fun z => ?_, ?_⟩
  · clear l2
    induction l with
    | nil => exact List.nodup_nil
    | cons x r ih =>
      have h' := List.nodup_cons.mp l1
      rw [List.flatMap_cons, List.nodup_append]
      refine ⟨nodup_map k1 fun a _ b _ e => (List.cons.inj e).2, ih h'.2, fun a ha b hb e => ?_⟩
      obtain ⟨r1, _, rfl⟩ := List.mem_map.mp ha
      obtain ⟨y, hy, hm⟩ := List.mem_flatMap.mp hb
      obtain ⟨r2, _, rfl⟩ := List.mem_map.mp hm
      exact h'.1 (by rw [(List.cons.inj e).1]; exact hy)
  · rw [List.mem_flatMap]
    constructor
    · rintro ⟨x, hx, hz⟩
      obtain ⟨r, hr, rfl⟩ := List.mem_map.mp hz
      exact ⟨x, r, rfl, (l2 x).mp hx, (k2 r).mp hr⟩
    · rintro ⟨x, r, rfl, hx, hr⟩
      exact ⟨x, (l2 x).mpr hx, List.mem_map.mpr ⟨r, (k2 r).mpr hr, rfl⟩⟩
  · clear l1 l2
    induction l with
    | nil => simp
    | cons x r ih => rw [List.flatMap_cons, List.length_append, ih, List.length_map, List.length_cons, Nat.succ_mul, Nat.add_comm]
theorem card_nil : Card (fun l : List Int => l = []) 1 := ⟨[[]], by simp, fun x => List.mem_singleton, rfl⟩
/-- lists told place by place -/
def Each : List (Int → Prop) → List Int → Prop
  | [], l => l = []
  | P :: Ps, l => ∃ x r, l = x :: r ∧ P x ∧ Each Ps r
theorem card_each : ∀ {Ps : List ((Int → Prop) × Nat)}, (∀ p ∈ Ps, Card p.1 p.2) → Card (Each (Ps.map Prod.fst)) ((Ps.map Prod.snd).foldr (· * ·) 1)
  | [], _ => card_nil
  | p :: Ps, h => card_cons (h p List.mem_cons_self) (card_each fun q hq => h q (List.mem_cons_of_mem _ hq))
theorem each_iff : ∀ {Ps : List (Int → Prop)} {l : List Int}, Each Ps l ↔ l.length = Ps.length ∧ ∀ (i : Nat) (P : Int → Prop), Ps[i]? = some P → P (l.getD i 0)
  | [], l => by
    show l = [] ↔ _
    constructor
    · rintro rfl
      exact ⟨rfl, fun i P h => by simp at h⟩
    · intro h
      exact List.length_eq_zero_iff.mp h.1
  | P :: Ps, l => by
    constructor
    · rintro ⟨x, r, rfl, hx, hr⟩
      obtain ⟨h1, h2⟩ := each_iff.mp hr
      refine ⟨by rw [List.length_cons, List.length_cons, h1], fun i Q hQ => ?_⟩
      cases i with
      | zero => cases hQ; exact hx
      | succ i => exact h2 i Q hQ
    · rintro ⟨h1, h2⟩
      cases l with
      | nil => cases h1
      | cons x r => exact ⟨x, r, rfl, h2 0 P rfl, each_iff.mpr ⟨by simpa using h1, fun i Q hQ => h2 (i + 1) Q hQ⟩⟩
/-- numbers that so many doublings take to nothing -/
theorem card_two {d a : Nat} (h : a ≤ d) : Card (fun x : Int => 0 ≤ x ∧ x < 2 ^ d ∧ (2 ^ d : Int) ∣ 2 ^ a * x) (2 ^ a) := by
  have e : (2 : Int) ^ d = 2 ^ a * 2 ^ (d - a) := by rw [← Int.pow_add]; congr 1; omega
  have pa : (0 : Int) < 2 ^ a := Int.pow_pos (by decide)
  have pb : (0 : Int) < 2 ^ (d - a) := Int.pow_pos (by decide)
  refine ⟨(List.range (2 ^ a)).map fun i : Nat => (2 : Int) ^ (d - a) * i, nodup_map List.nodup_range fun x _ y _ ex => ?_, fun x => ?_, by rw [List.length_map, List.length_range]⟩
  · have := Int.eq_of_mul_eq_mul_left (by omega) ex
    omega
  · rw [List.mem_map, e]
    constructor
    · rintro ⟨i, hi, rfl⟩
      have hi' : (i : Int) < 2 ^ a := by
        have := List.mem_range.mp hi
        have : (i : Int) < ((2 ^ a : Nat) : Int) := by omega
        rwa [Int.natCast_pow] at this
      refine ⟨Int.mul_nonneg (by omega) (by omega), ?_, ⟨i, by rw [Int.mul_assoc]⟩⟩
      rw [Int.mul_comm (2 ^ a)]
      exact Int.mul_lt_mul_of_pos_left hi' pb
    · rintro ⟨h0, h1, h2⟩
      have h3 : (2 : Int) ^ (d - a) ∣ x := Int.dvd_of_mul_dvd_mul_left (by omega) h2
      obtain ⟨t, rfl⟩ := h3
      have t0 : 0 ≤ t := by
        refine Int.not_lt.mp fun c => ?_
        have := Int.mul_lt_mul_of_pos_left c pb
        omega
      have t1 : t < 2 ^ a := by
        rw [Int.mul_comm (2 ^ a)] at h1
        exact Int.lt_of_mul_lt_mul_left h1 (by omega)
      refine ⟨t.toNat, List.mem_range.mpr ?_, by rw [Int.toNat_of_nonneg t0]⟩
      have : ((t.toNat : Nat) : Int) < ((2 ^ a : Nat) : Int) := by rw [Int.toNat_of_nonneg t0, Int.natCast_pow]; exact t1
      omega
end My

namespace My
/-! ### matrices by a number: rows and columns changed -/
def dlt (i j : Nat) : Int := if i = j then 1 else 0
def mulM (n : Nat) (f g : Nat → Nat → Int) : Nat → Nat → Int := fun i j => sumN n fun k => f i k * g k j
def EqM (N : Int) (n w : Nat) (A B : Nat → Nat → Int) : Prop := ∀ i j, i < n → j < w → N ∣ A i j - B i j
theorem EqM.refl {N : Int} {n w : Nat} (A : Nat → Nat → Int) : EqM N n w A A := fun i j _ _ => by rw [Int.sub_self]; exact Int.dvd_zero _
theorem EqM.of {N : Int} {n w : Nat} {A B : Nat → Nat → Int} (h : ∀ i j, i < n → j < w → A i j = B i j) : EqM N n w A B := fun i j hi hj => by rw [h i j hi hj, Int.sub_self]; exact Int.dvd_zero _
theorem EqM.symm {N : Int} {n w : Nat} {A B : Nat → Nat → Int} (h : EqM N n w A B) : EqM N n w B A := fun i j hi hj => by
  have := Int.dvd_neg.mpr (h i j hi hj)
  rwa [Int.neg_sub] at this
theorem EqM.trans {N : Int} {n w : Nat} {A B C : Nat → Nat → Int} (h : EqM N n w A B) (k : EqM N n w B C) : EqM N n w A C := fun i j hi hj => by
  have := Int.dvd_add (h i j hi hj) (k i j hi hj)
  rwa [show ∀ a b c : Int, a - b + (b - c) = a - c from fun a b c => by omega] at this
theorem dvd_mul_both {N a a' b b' : Int} (h : N ∣ a - a') (k : N ∣ b - b') : N ∣ a * b - a' * b' := by
  have := Int.dvd_add (show N ∣ b * (a - a') from Int.dvd_mul_of_dvd_right h) (show N ∣ a' * (b - b') from Int.dvd_mul_of_dvd_right k)
  rw [show b * (a - a') + a' * (b - b') = a * b - a' * b' by rw [Int.mul_sub, Int.mul_sub, Int.mul_comm b a, Int.mul_comm b a']; omega] at this
  exact this
theorem sumN_sub (n : Nat) (f g : Nat → Int) : sumN n f - sumN n g = sumN n fun i => f i - g i := by
  rw [show (fun i => f i - g i) = fun i => f i + -1 * g i from funext fun i => by omega, sumN_add, sumN_mul]
  omega
theorem sumN_mulR (n : Nat) (f : Nat → Int) (c : Int) : sumN n f * c = sumN n fun i => f i * c := by
  rw [Int.mul_comm, ← sumN_mul]
  exact sumN_congr fun i _ => Int.mul_comm _ _
theorem mulM_congr {N : Int} {n m w : Nat} {A A' B B' : Nat → Nat → Int} (h : EqM N n m A A') (k : EqM N m w B B') : EqM N n w (mulM m A B) (mulM m A' B') := fun i j hi hj => by
  show N ∣ (sumN m fun k => A i k * B k j) - sumN m fun k => A' i k * B' k j
  rw [sumN_sub]
  exact sumN_dvd fun t ht => dvd_mul_both (h i t hi ht) (k t j ht hj)
theorem mulM_assoc (n m : Nat) (A B C : Nat → Nat → Int) (i j : Nat) : mulM n (mulM m A B) C i j = mulM m A (mulM n B C) i j := by
  show (sumN n fun k => (sumN m fun l => A i l * B l k) * C k j) = sumN m fun l => A i l * sumN n fun k => B l k * C k j
  rw [sumN_congr (g := fun k => sumN m fun l => A i l * B l k * C k j) fun k _ => sumN_mulR m _ _, sumN_swap]
  exact sumN_congr fun l _ => by
    rw [← sumN_mul]
    exact sumN_congr fun k _ => Int.mul_assoc _ _ _
theorem mulM_one {n : Nat} (A : Nat → Nat → Int) {i : Nat} (hi : i < n) (j : Nat) : mulM n dlt A i j = A i j := by
  show (sumN n fun k => dlt i k * A k j) = _
  rw [sumN_only hi fun k _ hk => by unfold dlt; rw [if_neg fun e => hk e.symm, Int.zero_mul]]
  unfold dlt
  rw [if_pos rfl, Int.one_mul]
theorem mulM_id {n : Nat} (A : Nat → Nat → Int) (i : Nat) {j : Nat} (hj : j < n) : mulM n A dlt i j = A i j := by
  show (sumN n fun k => A i k * dlt k j) = _
  rw [sumN_only hj fun k _ hk => by unfold dlt; rw [if_neg hk, Int.mul_zero]]
  unfold dlt
  rw [if_pos rfl, Int.mul_one]
/-- changes that can be taken back -/
def Inver (N : Int) (n : Nat) (L : Nat → Nat → Int) : Prop := ∃ L', EqM N n n (mulM n L L') dlt ∧ EqM N n n (mulM n L' L) dlt
theorem Inver.one {N : Int} {n : Nat} : Inver N n dlt := ⟨dlt, EqM.of fun i j hi _ => mulM_one dlt hi j, EqM.of fun i j hi _ => mulM_one dlt hi j⟩
theorem EqM.assoc {N : Int} {n m w x : Nat} (A B C : Nat → Nat → Int) : EqM N x w (mulM n (mulM m A B) C) (mulM m A (mulM n B C)) := EqM.of fun i j _ _ => mulM_assoc n m A B C i j
theorem Inver.congr {N : Int} {n : Nat} {L K : Nat → Nat → Int} (h : Inver N n L) (e : EqM N n n L K) : Inver N n K := by
  obtain ⟨L', h1, h2⟩ := h
  exact ⟨L', (mulM_congr e.symm (EqM.refl L')).trans h1, (mulM_congr (EqM.refl L') e.symm).trans h2⟩
theorem Inver.mul {N : Int} {n : Nat} {A B : Nat → Nat → Int} (ha : Inver N n A) (hb : Inver N n B) : Inver N n (mulM n A B) := by
  obtain ⟨A', a1, a2⟩ := ha
  obtain ⟨B', b1, b2⟩ := hb
  have key : ∀ {A B A' B' : Nat → Nat → Int}, EqM N n n (mulM n A A') dlt → EqM N n n (mulM n B B') dlt → EqM N n n (mulM n (mulM n A B) (mulM n B' A')) dlt := fun {A B A' B'} h1 h2 =>
    (EqM.assoc A B (mulM n B' A')).trans ((mulM_congr (EqM.refl A) ((EqM.assoc B B' A').symm.trans ((mulM_congr h2 (EqM.refl A')).trans (EqM.of fun i j hi _ => mulM_one A' hi j)))).trans h1)
  exact ⟨mulM n B' A', key a1 b1, key b2 a2⟩
/-- two places exchanged -/
def swp (a b i : Nat) : Nat := if i = a then b else if i = b then a else i
theorem swp_swp (a b i : Nat) : swp a b (swp a b i) = i := by
  unfold swp
  by_cases h1 : i = a
  · rw [if_pos h1]
    by_cases h2 : b = a
    · rw [if_pos h2, h1]; exact h2
    · rw [if_neg h2, if_pos rfl, h1]
  · rw [if_neg h1]
    by_cases h2 : i = b
    · rw [if_pos h2, if_pos rfl, h2]
    · rw [if_neg h2, if_neg h1, if_neg h2]
theorem swp_lt {a b n i : Nat} (ha : a < n) (hb : b < n) (hi : i < n) : swp a b i < n := by
  unfold swp
  split
  · exact hb
  · split
    · exact ha
    · exact hi
def swE (a b : Nat) : Nat → Nat → Int := fun i k => dlt (swp a b i) k
theorem mul_swE {n a b : Nat} (ha : a < n) (hb : b < n) (A : Nat → Nat → Int) {i : Nat} (hi : i < n) (j : Nat) : mulM n (swE a b) A i j = A (swp a b i) j := mulM_one A (swp_lt ha hb hi) j
theorem dlt_swp (a b k j : Nat) : dlt (swp a b k) j = dlt k (swp a b j) := by
  unfold dlt
  by_cases h : swp a b k = j
  · rw [if_pos h, if_pos (by rw [← h, swp_swp])]
  · rw [if_neg h, if_neg fun e => h (by rw [e, swp_swp])]
theorem swE_mul {n a b : Nat} (ha : a < n) (hb : b < n) (A : Nat → Nat → Int) (i : Nat) {j : Nat} (hj : j < n) : mulM n A (swE a b) i j = A i (swp a b j) := by
  show (sumN n fun k => A i k * dlt (swp a b k) j) = _
  rw [sumN_congr (g := fun k => A i k * dlt k (swp a b j)) fun k _ => by rw [dlt_swp]]
  exact mulM_id A i (swp_lt ha hb hj)
theorem Inver.sw {N : Int} {n a b : Nat} (ha : a < n) (hb : b < n) : Inver N n (swE a b) := by
  have h : EqM N n n (mulM n (swE a b) (swE a b)) dlt := EqM.of fun i j hi _ => by
    rw [mul_swE ha hb _ hi]
    show dlt (swp a b (swp a b i)) j = _
    rw [swp_swp]
  exact ⟨swE a b, h, h⟩
/-- one place by a factor -/
def scE (p : Nat) (c : Int) : Nat → Nat → Int := fun i k => (if i = p then c else 1) * dlt i k
theorem mul_scE {n p : Nat} (c : Int) (A : Nat → Nat → Int) {i : Nat} (hi : i < n) (j : Nat) : mulM n (scE p c) A i j = (if i = p then c else 1) * A i j := by
  show (sumN n fun k => (if i = p then c else 1) * dlt i k * A k j) = _
  rw [sumN_congr (g := fun k => (if i = p then c else 1) * (dlt i k * A k j)) fun k _ => Int.mul_assoc _ _ _, sumN_mul]
  exact congrArg _ (mulM_one A hi j)
theorem Inver.sc {N : Int} {n p : Nat} {c c' : Int} (h : N ∣ c * c' - 1) : Inver N n (scE p c) := by
  have key : ∀ {c c' : Int}, N ∣ c * c' - 1 → EqM N n n (mulM n (scE p c) (scE p c')) dlt := fun {c c'} h i j hi hj => by
    rw [mul_scE _ _ hi]
    unfold scE
    by_cases e : i = p
    · rw [if_pos e, if_pos e, ← Int.mul_assoc, show c * c' * dlt i j - dlt i j = dlt i j * (c * c' - 1) by rw [Int.mul_sub, Int.mul_one, Int.mul_comm]]
      exact Int.dvd_mul_of_dvd_right h
    · rw [if_neg e, if_neg e, Int.one_mul, Int.one_mul, Int.sub_self]
      exact Int.dvd_zero _
  exact ⟨scE p c', key h, key (by rw [Int.mul_comm]; exact h)⟩
/-- one place taken so often from another -/
def trE (p q : Nat) (c : Int) : Nat → Nat → Int := fun i k => dlt i k - (if i = p then c else 0) * dlt q k
theorem mul_trE {n p q : Nat} (c : Int) (hq : q < n) (A : Nat → Nat → Int) {i : Nat} (hi : i < n) (j : Nat) : mulM n (trE p q c) A i j = A i j - (if i = p then c else 0) * A q j := by
  show (sumN n fun k => (dlt i k - (if i = p then c else 0) * dlt q k) * A k j) = _
  rw [sumN_congr (g := fun k => dlt i k * A k j + -(if i = p then c else 0) * (dlt q k * A k j)) fun k _ => by
    rw [Int.sub_mul, Int.mul_assoc, Int.neg_mul]; omega, sumN_add, sumN_mul]
  have h1 : (sumN n fun k => dlt i k * A k j) = A i j := mulM_one A hi j
  have h2 : (sumN n fun k => dlt q k * A k j) = A q j := mulM_one A hq j
  rw [h1, h2, Int.neg_mul]
  omega
theorem trE_mul {n p q : Nat} (c : Int) (hp : p < n) (A : Nat → Nat → Int) (i : Nat) {j : Nat} (hj : j < n) : mulM n A (trE p q c) i j = A i j - (if j = q then c else 0) * A i p := by
  show (sumN n fun k => A i k * (dlt k j - (if k = p then c else 0) * dlt q j)) = _
  have e2 : (if j = q then c else 0) = c * dlt q j := by
    unfold dlt
    by_cases h : q = j
    · rw [if_pos h, if_pos h.symm]; omega
    · rw [if_neg h, if_neg fun e => h e.symm]; omega
  have e1 : ∀ k, (if k = p then c else 0) = c * dlt k p := fun k => by
    unfold dlt
    by_cases h : k = p
    · rw [if_pos h, if_pos h]; omega
    · rw [if_neg h, if_neg h]; omega
  rw [e2, sumN_congr (g := fun k => A i k * dlt k j + -(c * dlt q j) * (A i k * dlt k p)) fun k _ => by
    rw [e1, Int.mul_sub, Int.neg_mul, show A i k * (c * dlt k p * dlt q j) = c * dlt q j * (A i k * dlt k p) by simp only [Int.mul_comm, Int.mul_left_comm, Int.mul_assoc]]; omega, sumN_add, sumN_mul]
  have h1 : (sumN n fun k => A i k * dlt k j) = A i j := mulM_id A i hj
  have h2 : (sumN n fun k => A i k * dlt k p) = A i p := mulM_id A i hp
  rw [h1, h2, Int.neg_mul]
  omega
theorem Inver.tr {N : Int} {n p q : Nat} (c : Int) (hq : q < n) (pq : p ≠ q) : Inver N n (trE p q c) := by
  have key : ∀ c : Int, EqM N n n (mulM n (trE p q c) (trE p q (-c))) dlt := fun c => EqM.of fun i j hi _ => by
    rw [mul_trE _ hq _ hi]
    unfold trE
    have qp : ¬ q = p := fun e => pq e.symm
    by_cases h : i = p
    · simp only [h, if_pos rfl, if_neg qp, Int.zero_mul, Int.sub_zero, Int.neg_mul, if_true]
      omega
    · simp only [if_neg h, if_neg qp, Int.zero_mul]
      omega
  have k2 := key (-c)
  rw [Int.neg_neg] at k2
  exact ⟨trE p q (-c), key c, k2⟩
/-- a matrix changed on both sides -/
def SInv (N : Int) (n w : Nat) (M G L R : Nat → Nat → Int) : Prop := EqM N n w (mulM n L (mulM w M R)) G ∧ Inver N n L ∧ Inver N w R
theorem SInv.start {N : Int} {n w : Nat} {M G : Nat → Nat → Int} (h : EqM N n w M G) : SInv N n w M G dlt dlt := ⟨(EqM.of fun i j hi hj => by rw [mulM_one _ hi, mulM_id _ _ hj]).trans h, Inver.one, Inver.one⟩
theorem SInv.row {N : Int} {n w : Nat} {M G L R E G' L' : Nat → Nat → Int} (h : SInv N n w M G L R) (he : Inver N n E) (hg : EqM N n w (mulM n E G) G') (hl : EqM N n n (mulM n E L) L') : SInv N n w M G' L' R :=
  ⟨(mulM_congr hl.symm (EqM.refl _)).trans ((EqM.assoc E L (mulM w M R)).trans ((mulM_congr (EqM.refl E) h.1).trans hg)), (he.mul h.2.1).congr hl, h.2.2⟩
theorem SInv.col {N : Int} {n w : Nat} {M G L R F G' R' : Nat → Nat → Int} (h : SInv N n w M G L R) (hf : Inver N w F) (hg : EqM N n w (mulM w G F) G') (hr : EqM N w w (mulM w R F) R') : SInv N n w M G' L R' :=
  ⟨(mulM_congr (EqM.refl L) ((mulM_congr (EqM.refl M) hr.symm).trans (EqM.assoc M R F).symm)).trans ((EqM.assoc L (mulM w M R) F).symm.trans ((mulM_congr h.1 (EqM.refl F)).trans hg)), h.2.1, (h.2.2.mul hf).congr hr⟩
end My

namespace My
/-! ### what a matrix takes to nothing: how many -/
def colV (x : List Int) : Nat → Nat → Int := fun k _ => x.getD k 0
def InN (N : Int) (w : Nat) (x : List Int) : Prop := x.length = w ∧ ∀ e ∈ x, 0 ≤ e ∧ e < N
def Ker (N : Int) (n w : Nat) (M : Nat → Nat → Int) (x : List Int) : Prop := InN N w x ∧ EqM N n 1 (mulM w M (colV x)) fun _ _ => 0
def actV (N : Int) (w : Nat) (R : Nat → Nat → Int) (x : List Int) : List Int := (List.range w).map fun i => mulM w R (colV x) i 0 % N
theorem actV_in {N : Int} (hN : 0 < N) (w : Nat) (R : Nat → Nat → Int) (x : List Int) : InN N w (actV N w R x) := ⟨by unfold actV; rw [List.length_map, List.length_range], fun e he => by
  unfold actV at he
  obtain ⟨i, _, rfl⟩ := List.mem_map.mp he
  exact ⟨Int.emod_nonneg _ (by omega), Int.emod_lt_of_pos _ hN⟩⟩
theorem actV_eq {N : Int} (w : Nat) (R : Nat → Nat → Int) (x : List Int) : EqM N w 1 (colV (actV N w R x)) (mulM w R (colV x)) := fun i j hi _ => by
  have e : colV (actV N w R x) i j = mulM w R (colV x) i 0 % N := by
    unfold colV actV
    rw [List.getD_eq_getElem?_getD, List.getElem?_map, List.getElem?_range hi]
    rfl
  rw [e, show mulM w R (colV x) i j = mulM w R (colV x) i 0 from rfl]
  have := Int.mul_ediv_add_emod (mulM w R (colV x) i 0) N
  exact ⟨-(mulM w R (colV x) i 0 / N), by rw [Int.mul_neg]; omega⟩
theorem near_mod {N x y : Int} (hx : 0 ≤ x ∧ x < N) (hy : 0 ≤ y ∧ y < N) (h : N ∣ x - y) : x = y := by
  have h2 := Int.emod_eq_emod_iff_emod_sub_eq_zero.mpr (Int.emod_eq_zero_of_dvd h)
  rwa [Int.emod_eq_of_lt hx.1 hx.2, Int.emod_eq_of_lt hy.1 hy.2] at h2
theorem col_inj {N : Int} {w : Nat} {x y : List Int} (hx : InN N w x) (hy : InN N w y) (h : EqM N w 1 (colV x) (colV y)) : x = y := by
  refine List.ext_getElem (by rw [hx.1, hy.1]) fun i h1 h2 => ?_
  have := h i 0 (by rw [← hx.1]; exact h1) (by decide)
  unfold colV at this
  rw [List.getD_eq_getElem?_getD, List.getElem?_eq_getElem h1, List.getD_eq_getElem?_getD, List.getElem?_eq_getElem h2] at this
  exact near_mod (hx.2 _ (List.getElem_mem h1)) (hy.2 _ (List.getElem_mem h2)) this
theorem mulM_zero {N : Int} {n w m : Nat} (A : Nat → Nat → Int) {B : Nat → Nat → Int} (h : EqM N m w B fun _ _ => 0) : EqM N n w (mulM m A B) fun _ _ => 0 :=
  (mulM_congr (EqM.refl A) h).trans (EqM.of fun i j _ _ => sumN_none fun k _ => Int.mul_zero _)
theorem back_left {N : Int} {n w : Nat} {A B X : Nat → Nat → Int} (h : EqM N n n (mulM n A B) dlt) : EqM N n w (mulM n A (mulM n B X)) X :=
  (EqM.assoc A B X).symm.trans ((mulM_congr h (EqM.refl X)).trans (EqM.of fun i j hi _ => mulM_one X hi j))
theorem ker_same {N : Int} (hN : 0 < N) {n w : Nat} {M G L R : Nat → Nat → Int} (h : SInv N n w M G L R) {a b : Nat} (ha : Card (Ker N n w M) a) (hb : Card (Ker N n w G) b) : a = b := by
  obtain ⟨hG, ⟨L', l1, l2⟩, ⟨R', r1, r2⟩⟩ := h
  -- G X as L (M (R X))
  have gx : ∀ X : Nat → Nat → Int, EqM N n 1 (mulM w G X) (mulM n L (mulM w M (mulM w R X))) := fun X =>
    (mulM_congr hG.symm (EqM.refl X)).trans ((EqM.assoc L (mulM w M R) X).trans (mulM_congr (EqM.refl L) (EqM.assoc M R X)))
  refine ha.eq hb (actV N w R') (actV N w R) (fun x hx => ⟨actV_in hN w _ _, ?_⟩) (fun x y hx hy e => ?_) (fun y hy => ⟨actV_in hN w _ _, ?_⟩) (fun x y hx hy e => ?_)
  · refine (gx _).trans ?_
    have h1 : EqM N w 1 (mulM w R (colV (actV N w R' x))) (colV x) := (mulM_congr (EqM.refl R) (actV_eq w R' x)).trans (back_left r1)
    exact mulM_zero L ((mulM_congr (EqM.refl M) h1).trans hx.2)
  · refine col_inj hx.1 hy.1 ?_
    have e' : EqM N w 1 (mulM w R' (colV x)) (mulM w R' (colV y)) := (actV_eq w R' x).symm.trans (by rw [e]; exact actV_eq w R' y)
    exact (back_left r1).symm.trans ((mulM_congr (EqM.refl R) e').trans (back_left r1))
  · have h1 := (gx (colV y)).symm.trans hy.2
    have h2 := (back_left (X := mulM w M (mulM w R (colV y))) (w := 1) l2).symm.trans (mulM_zero L' h1)
    exact (mulM_congr (EqM.refl M) (actV_eq w R y)).trans h2
  · refine col_inj hx.1 hy.1 ?_
    have e' : EqM N w 1 (mulM w R (colV x)) (mulM w R (colV y)) := (actV_eq w R x).symm.trans (by rw [e]; exact actV_eq w R y)
    exact (back_left r2).symm.trans ((mulM_congr (EqM.refl R') e').trans (back_left r2))
theorem ker_some {N : Int} (hN : 0 < N) (n w : Nat) (M : Nat → Nat → Int) : ∃ a, Card (Ker N n w M) a ∧ a ≤ N.toNat ^ w := by
  have h : ∀ w, Card (InN N w) (N.toNat ^ w) := fun w => by
    induction w with
    | zero => exact card_nil.iff fun l => ⟨fun e => ⟨by rw [e]; rfl, fun x hx => by rw [e] at hx; cases hx⟩, fun h => List.length_eq_zero_iff.mp h.1⟩
    | succ w ih =>
      rw [Nat.pow_succ, Nat.mul_comm]
      refine (card_cons ((card_span 0 N.toNat).iff (Q := fun x => 0 ≤ x ∧ x < N) fun x => by omega) ih).iff fun l => ?_
      constructor
      · rintro ⟨x, r, rfl, hx, h1, h2⟩
        exact ⟨by rw [List.length_cons, h1], fun e he => by
          rcases List.mem_cons.mp he with rfl | he
          · exact hx
          · exact h2 e he⟩
      · rintro ⟨h1, h2⟩
        cases l with
        | nil => cases h1
        | cons x r => exact ⟨x, r, rfl, h2 x List.mem_cons_self, by simpa using h1, fun e he => h2 e (List.mem_cons_of_mem _ he)⟩
  have dec : ∀ x, Decidable (EqM N n 1 (mulM w M (colV x)) fun _ _ => 0) := fun x => Classical.propDecidable _
  obtain ⟨m, h1, h2⟩ := (h w).part fun x => @decide _ (dec x)
  exact ⟨m, h1.iff fun x => ⟨fun k => ⟨k.1, @of_decide_eq_true _ (dec x) k.2⟩, fun k => ⟨k.1, @decide_eq_true _ (dec x) k.2⟩⟩, h2⟩
/-- powers of two alone on the diagonal -/
def Diag (N : Int) (n w : Nat) (G : Nat → Nat → Int) (pw : List Nat) : Prop := pw.length ≤ n ∧ pw.length ≤ w ∧ EqM N n w G fun i j => if i = j ∧ i < pw.length then 2 ^ pw.getD i 0 else 0
theorem pow_prod (w : Nat) (f : Nat → Nat) : (((List.range w).map fun i => 2 ^ f i).foldr (· * ·) 1) = 2 ^ ((List.range w).map f).sum := by
  have key : ∀ l : List Nat, ((l.map fun i => 2 ^ f i).foldr (· * ·) 1) = 2 ^ (l.map f).sum := fun l => by
    induction l with
    | nil => rfl
    | cons x r ih => rw [List.map_cons, List.foldr_cons, ih, List.map_cons, List.sum_cons, Nat.pow_add]
  exact key _
theorem sum_pow (pw : List Nat) (d : Nat) : ∀ w, pw.length ≤ w → ((List.range w).map fun i => pw.getD i d).sum = pw.sum + d * (w - pw.length) := by
  intro w hw
  obtain ⟨k, rfl⟩ := Nat.le.dest hw
  rw [Nat.add_sub_cancel_left]
  induction k with
  | zero =>
    have : (List.range (pw.length + 0)).map (fun i => pw.getD i d) = pw := List.ext_getElem? fun i => by
      rw [Nat.add_zero, List.getElem?_map]
      by_cases h : i < pw.length
      · rw [List.getElem?_range h, List.getElem?_eq_getElem h]
        show some (pw.getD i d) = _
        rw [List.getD_eq_getElem?_getD, List.getElem?_eq_getElem h]
        rfl
      · rw [List.getElem?_eq_none (by rw [List.length_range]; omega), List.getElem?_eq_none (by omega)]
        rfl
    rw [this]
    rfl
  | succ k ih =>
    rw [← Nat.add_assoc, List.range_succ, List.map_append, List.sum_append, ih (by omega), Nat.mul_succ]
    show _ + (pw.getD (pw.length + k) d + 0) = _
    rw [List.getD_eq_getElem?_getD, List.getElem?_eq_none (by omega)]
    show _ + (d + 0) = _
    omega
theorem ker_diag {d n w : Nat} {G : Nat → Nat → Int} {pw : List Nat} (h : Diag (2 ^ d) n w G pw) (hp : ∀ p ∈ pw, p ≤ d) : Card (Ker (2 ^ d) n w G) (2 ^ (pw.sum + d * (w - pw.length))) := by
  rw [← sum_pow pw d w h.2.1, ← pow_prod]
  have hle : ∀ i, pw.getD i d ≤ d := fun i => by
    rw [List.getD_eq_getElem?_getD]
    by_cases c : i < pw.length
    · rw [List.getElem?_eq_getElem c]
      exact hp _ (List.getElem_mem c)
    · rw [List.getElem?_eq_none (by omega)]
      exact Nat.le_refl d
  have hc := card_each (Ps := (List.range w).map fun i => ((fun x : Int => 0 ≤ x ∧ x < 2 ^ d ∧ (2 ^ d : Int) ∣ 2 ^ pw.getD i d * x), 2 ^ pw.getD i d)) fun p hp => by
    obtain ⟨i, _, rfl⟩ := List.mem_map.mp hp
    exact card_two (hle i)
  rw [List.map_map, List.map_map] at hc
  refine hc.iff fun l => each_iff.trans ?_
  rw [List.length_map, List.length_range]
  have hk : ∀ i, i < n → ∀ j, mulM w G (colV l) i j = sumN w fun k => G i k * l.getD k 0 := fun i _ j => rfl
  have sel : ∀ i, i < n → (2 ^ d : Int) ∣ mulM w G (colV l) i 0 - (if i < pw.length then 2 ^ pw.getD i 0 * l.getD i 0 else 0) := fun i hi => by
    have h1 : (2 ^ d : Int) ∣ mulM w G (colV l) i 0 - mulM w (fun i j => if i = j ∧ i < pw.length then 2 ^ pw.getD i 0 else 0) (colV l) i 0 := mulM_congr h.2.2 (EqM.refl (colV l)) i 0 hi (Nat.lt_succ_self 0)
    have h2 : mulM w (fun i j => if i = j ∧ i < pw.length then (2 : Int) ^ pw.getD i 0 else 0) (colV l) i 0 = if i < pw.length then 2 ^ pw.getD i 0 * l.getD i 0 else 0 := by
      show (sumN w fun k => (if i = k ∧ i < pw.length then (2 : Int) ^ pw.getD i 0 else 0) * l.getD k 0) = _
      by_cases c : i < pw.length
      · rw [sumN_only (k := i) (by have := h.2.1; omega) fun k _ hk => by rw [if_neg fun e => hk e.1.symm, Int.zero_mul], if_pos ⟨rfl, c⟩, if_pos c]
      · rw [sumN_none fun k _ => by rw [if_neg fun e => c e.2, Int.zero_mul], if_neg c]
    rw [h2] at h1
    exact h1
  constructor
  · rintro ⟨h1, h2⟩
    have h3 : ∀ i, i < w → 0 ≤ l.getD i 0 ∧ l.getD i 0 < 2 ^ d ∧ (2 ^ d : Int) ∣ 2 ^ pw.getD i d * l.getD i 0 := fun i hi => h2 i _ (by rw [List.getElem?_map, List.getElem?_range hi]; rfl)
    refine ⟨⟨h1, fun e he => ?_⟩, fun i j hi hj => ?_⟩
    · obtain ⟨i, hi, rfl⟩ := List.mem_iff_getElem.mp he
      have := h3 i (by omega)
      rw [List.getD_eq_getElem?_getD, List.getElem?_eq_getElem hi] at this
      exact ⟨this.1, this.2.1⟩
    · obtain rfl : j = 0 := by omega
      have s := sel i hi
      show _ ∣ _ - (0 : Int)
      rw [Int.sub_zero]
      by_cases c : i < pw.length
      · rw [if_pos c] at s
        have := (h3 i (by have := h.2.1; omega)).2.2
        rw [List.getD_eq_getElem?_getD (l := pw), List.getElem?_eq_getElem c, Option.getD_some] at this
        rw [List.getD_eq_getElem?_getD (i := i) (a := 0) (l := pw), List.getElem?_eq_getElem c, Option.getD_some] at s
        have := Int.dvd_add s this
        rwa [show ∀ a b : Int, a - b + b = a from fun a b => by omega] at this
      · rw [if_neg c, Int.sub_zero] at s
        exact s
  · rintro ⟨⟨h1, h2⟩, h3⟩
    refine ⟨h1, fun i P hP => ?_⟩
    rw [List.getElem?_map] at hP
    by_cases hi : i < w
    · rw [List.getElem?_range hi] at hP
      cases hP
      have hm : l.getD i 0 ∈ l := by
        rw [List.getD_eq_getElem?_getD, List.getElem?_eq_getElem (by omega)]
        exact List.getElem_mem _
      refine ⟨(h2 _ hm).1, (h2 _ hm).2, ?_⟩
      by_cases c : i < pw.length
      · have s := sel i (by have := h.1; omega)
        rw [if_pos c] at s
        have k := h3 i 0 (by have := h.1; omega) (by decide)
        have k : (2 ^ d : Int) ∣ mulM w G (colV l) i 0 - 0 := k
        rw [Int.sub_zero] at k
        have := Int.dvd_sub k s
        rw [show ∀ a b : Int, a - (a - b) = b from fun a b => by omega] at this
        rw [List.getD_eq_getElem?_getD (l := pw), List.getElem?_eq_getElem c] at this ⊢
        rw [Option.getD_some] at this ⊢
        exact this
      · rw [List.getD_eq_getElem?_getD (l := pw), List.getElem?_eq_none (by omega)]
        exact Int.dvd_mul_right _ _
    · rw [List.getElem?_eq_none (by rw [List.length_range]; omega)] at hP
      cases hP
end My

namespace My
open PySem PySem.Spec PyProof.Rows L2 Pre
/-! ### lists of rows of one's own, told by a function -/
/-- the lists at as are new since H0, none of them is f, no two are one, and they hold the rows of M -/
def Rw (H0 : Hp) (f : Addr) (H : Hp) (as : List Addr) (w : Nat) (M : Nat → Nat → Int) : Prop := as.Nodup ∧ ∀ i a, as[i]? = some a → H0 a = none ∧ a ≠ f ∧ H a = some (.lst (rowZ w (M i)))
theorem Rw.nil {H0 H : Hp} {f : Addr} {w : Nat} {M : Nat → Nat → Int} : Rw H0 f H [] w M := ⟨List.nodup_nil, fun i a h => by simp at h⟩
theorem Rw.snoc {H0 H : Hp} {f p : Addr} {as : List Addr} {w : Nat} {M : Nat → Nat → Int} (h : Rw H0 f H as w M) (h1 : H0 p = none) (h2 : p ≠ f) (h3 : H p = some (.lst (rowZ w (M as.length)))) (h4 : p ∉ as) : Rw H0 f H (as ++ [p]) w M := by
  refine ⟨List.nodup_append.mpr ⟨h.1, by simp, fun a ha b hb e => h4 (by rw [List.mem_singleton.mp hb] at e; rw [← e]; exact ha)⟩, fun i a ha => ?_⟩
  by_cases c : i < as.length
  · rw [List.getElem?_append_left c] at ha
    exact h.2 i a ha
  · rw [List.getElem?_append_right (by omega)] at ha
    have : i - as.length = 0 := by
      have := (List.getElem?_eq_some_iff.mp ha).1
      rw [List.length_singleton] at this
      omega
    rw [this, List.getElem?_cons_zero] at ha
    cases ha
    obtain rfl : i = as.length := by omega
    exact ⟨h1, h2, h3⟩
theorem Rw.but {H0 H H' : Hp} {f : Addr} {as : List Addr} {w : Nat} {M : Nat → Nat → Int} (h : Rw H0 f H as w M) (s : ∀ b o, b ≠ f → H b = some o → H' b = some o) : Rw H0 f H' as w M :=
  ⟨h.1, fun i a ha => by
    obtain ⟨a1, a2, a3⟩ := h.2 i a ha
    exact ⟨a1, a2, s _ _ a2 a3⟩⟩
theorem Rw.congr {H0 H : Hp} {f : Addr} {as : List Addr} {w : Nat} {M M' : Nat → Nat → Int} (h : Rw H0 f H as w M) (e : ∀ i j, i < as.length → j < w → M i j = M' i j) : Rw H0 f H as w M' :=
  ⟨h.1, fun i a ha => by
    obtain ⟨a1, a2, a3⟩ := h.2 i a ha
    refine ⟨a1, a2, a3.trans ?_⟩
    rw [rowZ_congr fun j hj => e i j (List.getElem?_eq_some_iff.mp ha).1 hj]⟩
theorem Rw.mem {H0 H : Hp} {f : Addr} {as : List Addr} {w : Nat} {M : Nat → Nat → Int} (h : Rw H0 f H as w M) {a : Addr} (ha : a ∈ as) : H0 a = none ∧ a ≠ f ∧ ∃ o, H a = some o := by
  obtain ⟨i, hi⟩ := List.mem_iff_getElem?.mp ha
  obtain ⟨a1, a2, a3⟩ := h.2 i a hi
  exact ⟨a1, a2, _, a3⟩
theorem Rw.notin {H0 H : Hp} {f p : Addr} {as : List Addr} {w : Nat} {M : Nat → Nat → Int} (h : Rw H0 f H as w M) (np : H p = none) : p ∉ as := fun hm => by
  obtain ⟨_, _, o, ho⟩ := h.mem hm
  rw [np] at ho
  cases ho
theorem nodup_at {l : List Addr} : l.Nodup ↔ ∀ i j, i < j → j < l.length → l[i]? ≠ l[j]? := by
  unfold List.Nodup
  rw [List.pairwise_iff_getElem]
  constructor
  · intro h i j hij hj e
    rw [List.getElem?_eq_getElem (by omega), List.getElem?_eq_getElem hj] at e
    exact h i j (by omega) hj hij (Option.some.inj e)
  · intro h i j hi hj hij e
    refine h i j hij hj ?_
    rw [List.getElem?_eq_getElem hi, List.getElem?_eq_getElem hj, e]
/-- one row by another list -/
theorem Rw.set {H0 H : Hp} {f p : Addr} {as : List Addr} {w : Nat} {M M' : Nat → Nat → Int} (h : Rw H0 f H as w M) {k : Nat} (h1 : H0 p = none) (h2 : p ≠ f) (h3 : H p = some (.lst (rowZ w (M' k)))) (h4 : p ∉ as) (e : ∀ i j, i ≠ k → j < w → M i j = M' i j) : Rw H0 f H (as.set k p) w M' := by
  refine ⟨?_, fun i a ha => ?_⟩
  · refine nodup_at.mpr fun i j hij hj => ?_
    rw [List.length_set] at hj
    rw [List.getElem?_set, List.getElem?_set]
    by_cases c1 : k = i <;> by_cases c2 : k = j
    · omega
    · rw [if_pos c1, if_neg c2, if_pos (by omega)]
      intro z
      exact h4 (List.mem_iff_getElem?.mpr ⟨j, z.symm⟩)
    · rw [if_neg c1, if_pos c2, if_pos (by omega)]
      intro z
      exact h4 (List.mem_iff_getElem?.mpr ⟨i, z⟩)
    · rw [if_neg c1, if_neg c2]
      exact nodup_at.mp h.1 i j hij hj
  · rw [List.getElem?_set] at ha
    by_cases c : k = i
    · subst c
      rw [if_pos rfl] at ha
      split at ha
      · cases ha
        exact ⟨h1, h2, h3⟩
      · cases ha
    · rw [if_neg c] at ha
      obtain ⟨a1, a2, a3⟩ := h.2 i a ha
      refine ⟨a1, a2, a3.trans ?_⟩
      rw [rowZ_congr fun j hj => e i j (fun z => c z.symm) hj]
/-- a comprehension over a range that makes new rows -/
theorem lc_gridR {lo : Int} {n w : Nat} {j : Nat} {te : TE} {vs : List Nat} {σ : L2.St} {H1 : Hp} {D : Addr} {Qd : Hp → Prop} (M : Nat → Nat → Int) (nD : H1 D = none) (hz : n < sizeLine)
    (hw : ∀ x, wipe ((wipe σ vs).set j (some x)) vs = wipe σ vs)
    (hs : ∀ (i : Nat) (H' : Hp), i < n → Same H1 H' → ∀ Qt : V → Hp → Prop, (∀ p H'', Same H' H'' → H' p = none → H'' p = some (.lst (rowZ w (M i))) → Qt (.ref p) H'') → te ((wipe σ vs).set j (some (.int (lo + (i : Int))))) H' Qt)
    (hd : ∀ H' as, Same H1 H' → H' D = some (.lst (as.map V.ref)) → as.length = n → Rw H1 D H' as w M → Qd H') :
    ∃ W : Nat → Nat → Hp → Prop, (∃ m, W 0 m (upd H1 D (.lst []))) ∧ ∀ i m H, W i m H →
      ((Itr lo n).stop i H ∧ Qd H) ∨ ((Itr lo n).go i H ∧ ∃ Nx : Hp → Prop, (∀ H', Nx H' → ∃ m', m' < m ∧ W (i + 1) m' H') ∧ ∀ x H', (Itr lo n).yld i H x H' → gName j x (wipe σ vs) H' fun σ2 H2 => wipe σ2 vs = wipe σ vs ∧ tYes σ2 H2 fun b H3 =>
        if b = true then te σ2 H3 fun y H4 => ∃ acc, H4 D = some (.lst acc) ∧ acc.length < sizeLine ∧ Nx (upd H4 D (.lst (acc ++ [y]))) else Nx H3) := by
  refine lc_range (lo := lo) (n := n) (fun i H => Same H1 H ∧ ∃ as : List Addr, H D = some (.lst (as.map V.ref)) ∧ as.length = i ∧ Rw H1 D H as w M) ⟨same_upd nD, [], upd_same, rfl, .nil⟩ ?_ ?_
  · rintro i H hi ⟨s, as, hD, hl, hN⟩
    refine ⟨hw _, ?_⟩
    unfold tYes
    dsimp only
    rw [if_pos (show true = true from rfl)]
    refine hs i H hi s _ fun p H4 s4 np hp => ?_
    have npD : p ≠ D := (ne_of_none hD np).symm
    have npa := hN.notin np
    refine ⟨_, s4 _ _ hD, by rw [List.length_map]; omega, same_over nD (s.trans s4), as ++ [p], by rw [upd_same, List.map_append]; rfl, by rw [List.length_append, hl]; rfl, ?_⟩
    exact (hN.but fun b o nb e => by rw [upd_ne nb]; exact s4 _ _ e).snoc (s.free np) npD (by rw [upd_ne npD, hl]; exact hp) npa
  · rintro H ⟨s, as, hD, hl, hN⟩
    exact hd H as s hD hl hN
/-- a comprehension over a list that makes new rows -/
theorem lc_gridL {K : PySem.W.Frag} {a : Addr} {xs : List V} {w : Nat} {j : Nat} {te : TE} {vs : List Nat} {σ : L2.St} {H1 : Hp} {D : Addr} {Qd : Hp → Prop} (M : Nat → Nat → Int) (nD : H1 D = none) (hS : SqL K H1 a xs) (hz : xs.length < sizeLine)
    (hw : ∀ x, wipe ((wipe σ vs).set j (some x)) vs = wipe σ vs)
    (hs : ∀ (i : Nat) (x : V) (H' : Hp), xs[i]? = some x → Same H1 H' → ∀ Qt : V → Hp → Prop, (∀ p H'', Same H' H'' → H' p = none → H'' p = some (.lst (rowZ w (M i))) → Qt (.ref p) H'') → te ((wipe σ vs).set j (some x)) H' Qt)
    (hd : ∀ H' as, Same H1 H' → H' D = some (.lst (as.map V.ref)) → as.length = xs.length → Rw H1 D H' as w M → Qd H') :
    ∃ W : Nat → Nat → Hp → Prop, (∃ m, W 0 m (upd H1 D (.lst []))) ∧ ∀ i m H, W i m H →
      ((Itl K a).stop i H ∧ Qd H) ∨ ((Itl K a).go i H ∧ ∃ Nx : Hp → Prop, (∀ H', Nx H' → ∃ m', m' < m ∧ W (i + 1) m' H') ∧ ∀ x H', (Itl K a).yld i H x H' → gName j x (wipe σ vs) H' fun σ2 H2 => wipe σ2 vs = wipe σ vs ∧ tYes σ2 H2 fun b H3 =>
        if b = true then te σ2 H3 fun y H4 => ∃ acc, H4 D = some (.lst acc) ∧ acc.length < sizeLine ∧ Nx (upd H4 D (.lst (acc ++ [y]))) else Nx H3) := by
  refine lc_list (K := K) (a := a) (xs := xs) (fun i H => Same H1 H ∧ ∃ as : List Addr, H D = some (.lst (as.map V.ref)) ∧ as.length = i ∧ Rw H1 D H as w M) ⟨same_upd nD, [], upd_same, rfl, .nil⟩ (fun i H _ p => p.1.seq hS) ?_ ?_
  · rintro i x H hx ⟨s, as, hD, hl, hN⟩
    refine ⟨hw _, ?_⟩
    have hi := (List.getElem?_eq_some_iff.mp hx).1
    unfold tYes
    dsimp only
    rw [if_pos (show true = true from rfl)]
    refine hs i x H hx s _ fun p H4 s4 np hp => ?_
    have npD : p ≠ D := (ne_of_none hD np).symm
    have npa := hN.notin np
    refine ⟨_, s4 _ _ hD, by rw [List.length_map]; omega, same_over nD (s.trans s4), as ++ [p], by rw [upd_same, List.map_append]; rfl, by rw [List.length_append, hl]; rfl, ?_⟩
    exact (hN.but fun b o nb e => by rw [upd_ne nb]; exact s4 _ _ e).snoc (s.free np) npD (by rw [upd_ne npD, hl]; exact hp) npa
  · rintro H ⟨s, as, hD, hl, hN⟩
    exact hd H as s hD hl hN
end My

namespace My
open PySem PySem.Spec PyProof.Rows L2 Pre
/-! ### min of two things of data -/
section
variable {prog : Program} {w : World} {A : Around} {E : Value → Shared → Prop} {s : Shared}
theorem call_min_twoH {a b : Value} {Q : Value → Shared → Prop}
    (h : wpAny (model prog w) A.in1 (pyIter (.ref s.heap.objs.size)) (fun it s₂ => ∃ I fp wr G n P St H bt, it = .ref I ∧ PySem.WalksS prog w A.in1 I fp wr G n P St ∧ St 0 s₂ ∧ (∀ b ∈ fp, b < s₂.heap.objs.size) ∧ 0 < n ∧
      (∀ b o, H.get? b = some o → b ∉ wr) ∧ (∀ b o, H.get? b = some o → s₂.heap.get? b = some o) ∧ PySem.CmpIn prog w A.in1 .Lt H P bt ∧ ∀ v s', P (argBest bt (n - 1)) v → PySem.Moved wr G s₂ s' → Q v s') E
      { s with heap := s.heap.push { cls := .type "tuple", data := .seq #[a, b] } }) :
    wpAny (model prog w) A (call (.builtin "min") [a, b]) Q E s := by
  have hname : (toString "min" ++ toString ".loop" : String) = "min.loop" := by decide
  refine call_function_tree F.kind_min F.plain_min F.entry_min (F.args_min2 _ _) ?_
  show wpAny _ A.in1 (Builtin.Builtins.bindParams "min" ["key", "default"] 0 ⟨[], []⟩ >>= _) _ _ s
  refine wpAny_bind (wpAny_of_eq (show Builtin.Builtins.bindParams "min" ["key", "default"] 0 ⟨[], []⟩ = pure [none, none] from rfl) ?_)
  show wpAny _ A.in1 (newTuple [a, b] >>= _) _ _ s
  refine wpAny_bind (wpAny_newObj_type ?_)
  refine wpAny_bind (wpAny_mono h (fun it s₂ h₂ => ?_) fun _ _ e => e)
  obtain ⟨I, fp, wr, G, n, P, St, H, bt, rfl, W, hst, hfp, hn, hw, hkeep, hcmp, hQ⟩ := h₂
  refine wpAny_bind (wpAny_newObj_type ?_)
  have hSf : s₂.heap.objs.size ∉ fp := fun hm => Nat.lt_irrefl _ (hfp _ hm)
  rw [hname]
  refine wpAny_pure ⟨plainId_quiet F.plain_min_loop _, PySem.codeAny_min_loop_firstH W H hw bt hcmp s₂.heap.objs.size hSf (PySem.fresh_in hkeep) _ hn (fun b o e => Heap.get?_push_of_some _ (hkeep b o e)) (W.frame 0 s₂ _ s₂.toks hst (Nat.le_refl _) fun b _ o e => Heap.get?_push_of_some _ e) (Heap.get?_push_size _ rfl) fun v s' hP hm => ?_⟩
  exact hQ v s' hP (PySem.Moved.drop_new (tk := s₂.toks) hm (Nat.le_refl _))
end
def rMin2D (K : PySem.W.Frag) : List V → Hp → VK → Prop := fun xs H Q => ∃ (x y : V) (d e : PyData), xs = [x, y] ∧ Dp K H x d ∧ Dp K H y e ∧ PySem.W.AlikeAll [d, e] ∧ PyData.depthAll [d, e] ≤ 2 ∧ Q (if PySem.W.dataLt e d = true then y else x) H
section
variable {X : Cx} {K : PySem.W.Frag}
theorem k_min2D (K : PySem.W.Frag) (h : X.K = K) (hc : X.calm = true) (hu : X.A.units + 65 < cLine) : CallR X (.builtin "min") (rMin2D K) := by
  subst h
  intro pins s σ H xs us Q I r h
  obtain ⟨x, y, d, e, rfl, hx, hy, ha, hd, q⟩ := h
  obtain ⟨cs, hr⟩ := Dp.readsAll I _ _ us (.cons hx (.cons hy .nil)) r
  obtain ⟨u, v, rfl, ru, rv⟩ := vals2 r
  have hT : (s.heap.push { cls := .type "tuple", data := .seq #[u, v] }).IsTuple s.heap.objs.size #[u, v] := ⟨_, Heap.get?_push_size _ rfl, rfl, 0, rfl⟩
  have hr2 : ReadsAll (s.heap.push { cls := .type "tuple", data := .seq #[u, v] }) (#[u, v] : Array Value).toList [d, e] cs := ReadsAll.keeps (fun b o e => Heap.get?_push_of_some _ e) hr
  refine call_min_twoH (PySem.W.iter_tupleW (A := X.A.in1) (s := { s with heap := s.heap.push { cls := .type "tuple", data := .seq #[u, v] } }) (I.ok.hd hc) hT fun s₂ e2 W st hfp hw hk => ?_)
  refine ⟨_, _, _, _, _, _, _, (s.heap.push { cls := .type "tuple", data := .seq #[u, v] }), _, rfl, W, st, hfp, (by show 0 < 2; decide), hw, hk, PySem.W.cmpIn_lt (A := X.A.in1) (s := { s with heap := s.heap.push { cls := .type "tuple", data := .seq #[u, v] } }) hr2 ha (by show X.A.units + 1 + _ < _; omega), fun z s' hP m => ?_⟩
  obtain ⟨h', tk, rfl, hk'⟩ := PySem.W.moved_old e2 rfl m
  have hold : ∀ b o, s.heap.get? b = some o → h'.get? b = some o := fun b o e => hk' b o (Heap.get?_push_of_some _ e)
  refine ⟨if PySem.W.dataLt e d = true then y else x, H, I.kept hold, ?_, q⟩
  have hb : argBest (fun i j => PySem.W.dataLt ([d, e].getD i .none) ([d, e].getD j .none)) (#[u, v].size - 1) = if PySem.W.dataLt e d = true then 1 else 0 := rfl
  have hP' : (#[u, v] : Array Value)[argBest (fun i j => PySem.W.dataLt ([d, e].getD i .none) ([d, e].getD j .none)) (#[u, v].size - 1)]? = some z := hP
  rw [hb] at hP'
  by_cases c : PySem.W.dataLt e d = true
  · rw [if_pos c] at hP' ⊢
    cases hP'
    exact rv
  · rw [if_neg c] at hP' ⊢
    cases hP'
    exact ru
end
end My

namespace My
open PySem PySem.Spec PyProof.Rows L2 Pre
/-! ### shapes: numbers and rows -/
/-- twos in a number, so many at most -/
def Twos (x : Int) (m t : Nat) : Prop := t ≤ m ∧ (2 ^ t : Int) ∣ x ∧ (t < m → ¬ (2 ^ (t + 1) : Int) ∣ x)
/-- columns exchanged, rows taken -/
def exC (M : Nat → Nat → Int) (a b : Nat) : Nat → Nat → Int := fun i j => M i (swp a b j)
def tkC (M : Nat → Nat → Int) (q p : Nat) (c : Int) : Nat → Nat → Int := fun i j => M i j - (if j = q then c else 0) * M i p
theorem in_next {as : List Addr} {w i : Nat} {r : Addr} {M M' : Nat → Nat → Int} {HA HB : Hp} (nd : as.Nodup) (hr : as[i]? = some r) (hin : ∀ k r, as[k]? = some r → HA r = some (.lst (rowZ w (if k < i then M' k else M k)))) (hB : ∀ c o, c ≠ r → HA c = some o → HB c = some o) (hBr : HB r = some (.lst (rowZ w (M' i)))) : ∀ k r', as[k]? = some r' → HB r' = some (.lst (rowZ w (if k < i + 1 then M' k else M k))) := fun k r' hk => by
  by_cases c : k = i
  · subst c
    rw [hr] at hk
    cases hk
    rw [if_pos (Nat.lt_succ_self k)]
    exact hBr
  · have ne : r' ≠ r := fun e => by
      have h1 := (List.getElem?_eq_some_iff.mp hk).1
      have h2 := (List.getElem?_eq_some_iff.mp hr).1
      rcases Nat.lt_or_gt_of_ne c with z | z
      · exact nodup_at.mp nd k i z h2 (by rw [hk, hr, e])
      · exact nodup_at.mp nd i k z h1 (by rw [hk, hr, e])
    have := hB _ _ ne (hin k r' hk)
    rw [this]
    congr 3
    by_cases z : k < i
    · rw [if_pos z, if_pos (by omega)]
    · rw [if_neg z, if_neg (by omega)]
theorem two_le24 {d : Nat} (h : d ≤ 24) : (2 : Int) ^ d ≤ 2 ^ 24 := pow_le_pow2 h
theorem newton {N x c k : Int} (hk : k * k ∣ N ∨ N ∣ k * k) (h : k ∣ x * c - 1) : (N ∣ k * k → N ∣ x * ((c * (2 - x * c)) % N) - 1) ∧ (k * k ∣ N → k * k ∣ x * ((c * (2 - x * c)) % N) - 1) := by
  obtain ⟨u, hu⟩ := h
  have f := Int.mul_ediv_add_emod (c * (2 - x * c)) N
  generalize (c * (2 - x * c)) % N = r at *
  generalize (c * (2 - x * c)) / N = v at *
  have e : x * r - 1 = k * k * (-(u * u)) + N * (-(x * v)) := by
    obtain rfl : r = c * (2 - x * c) - N * v := by omega
    have hxc : x * c = k * u + 1 := by omega
    have e1 : x * (c * (2 - x * c)) = x * c * (2 - x * c) := (Int.mul_assoc _ _ _).symm
    rw [Int.mul_sub, e1, hxc, show (k * u + 1) * (2 - (k * u + 1)) = 1 - k * u * (k * u) by
      rw [Int.mul_sub, Int.mul_add, Int.add_mul, Int.add_mul]; omega]
    rw [Int.mul_neg, Int.mul_neg, show k * u * (k * u) = k * k * (u * u) by simp only [Int.mul_comm, Int.mul_left_comm, Int.mul_assoc], show x * (N * v) = N * (x * v) by simp only [Int.mul_left_comm]]
    omega
  rw [e]
  exact ⟨fun g => Int.dvd_add (Int.dvd_mul_of_dvd_left g) (Int.dvd_mul_right _ _), fun g => Int.dvd_add (Int.dvd_mul_right _ _) (Int.dvd_mul_of_dvd_left g)⟩
theorem pow_dvd2 {a b : Nat} (h : a ≤ b) : (2 : Int) ^ a ∣ 2 ^ b := ⟨2 ^ (b - a), by rw [← Int.pow_add]; congr 1; omega⟩
local macro_rules | `(tactic| walk_at "go") => `(tactic| repeat (first | (with_reducible first | refine iteT ?_ | refine iteF ?_ | refine iteNtt ?_ | refine iteNff ?_ | refine iteET (by omega) ?_ | refine iteEF (by omega) ?_ | refine iteENT (by omega) ?_ | refine iteENF (by omega) ?_ | refine iteDT (by omega) ?_ | refine iteDF (by omega) ?_ | refine iteNT (by omega) ?_ | refine iteNF (by omega) ?_) | refine ⟨_, rfl, ?_⟩ | refine ⟨_, _, rfl, rfl, ?_⟩ | refine ⟨_, _, rfl, ?_⟩ | refine ⟨rfl, ?_⟩ | refine .inl ⟨_, rfl, ?_⟩ | refine .inr ⟨_, rfl, ?_⟩))
local macro_rules | `(tactic| walk_at "b") => `(tactic| try dsimp (config := { proj := false, iota := false, eta := false, zeta := false }) only)
section
variable {P : Program} {w : World} {K : PySem.W.Frag} {mg : Str → Option Value} {base : Heap}
def sp_unit_rows : Sp := fun vs H Q _ => ∃ n : Nat, vs = [.int n] ∧ n ≤ 100 ∧ ∀ H' p as, Same H H' → H p = none → H' p = some (.lst (as.map V.ref)) → as.length = n → Rw H p H' as n dlt → Q (.ref p) H'
theorem G_unit_rows (T : Top K mg) : FnOk P w K mg base CX0 1 T.f_unit_rows T.fd_unit_rows ["size"] sp_unit_rows := by
  refine T.F_unit_rows.ok sc_unit_rows (fun vs H Q E h => by obtain ⟨n, rfl, _⟩ := h; rfl) (fun cdv A outer s H vs Q E hr h => ?_)
  obtain ⟨n, rfl, hn, q⟩ := h
  refine ⟨_, PSs.nox (pss_one (ps_ret (pe_lc (own := [("place", 1)]) (g := gName 1) (tt := tYes) (by rfl) sc_unit_rows.nd (pi_range1 (by rfl) T.n_range (pa_cons (pv 0) pa_nil)) (blkOk_by (own := [("place", 1)]) (N := N_unit_rows) (sc := defScope s_unit_rows) (by decide +kernel)) (fun _ _ _ _ _ => (pg_name (i := 1) sc_unit_rows.nd rfl (by first | exact Or.inl rfl | exact Or.inr rfl))) (fun _ _ _ _ _ => pts_nil) (fun _ _ _ _ _ => (pe_op op_cat (pe_op op_cat (pe_op op_rep (pe_lst (pa_cons pe_int pa_nil)) (pv 1)) (pe_lst (pa_cons pe_int pa_nil))) (pe_op op_rep (pe_lst (pa_cons pe_int pa_nil)) (pe_op op_sub (pe_op op_sub (pv 0) pe_int) (pv 1)))))))), ?_⟩
  refine ⟨_, rfl, _, rfl, by omega, by omega, fun D nD => ?_⟩
  rw [Int.toNat_natCast]
  refine lc_gridR (lo := 0) (n := n) (w := n) dlt nD (small4 (by omega)) (fun x => rfl) ?_ ?_
  · intro i H' hi s Qt qt
    rw [Int.zero_add]
    refine ⟨(by show 1 ≤ sizeLine; decide), fun p1 np1 => ?_⟩
    obtain ⟨H1, e1, s1, hp1⟩ := fresh (.lst [V.int 0]) np1
    rw [e1]
    refine ⟨_, rfl, p1, _, _, rfl, rfl, hp1, by omega, by omega, by rw [sizeLine_eq]; show 1 * _ ≤ _; omega, fun p2 np2 => ?_⟩
    rw [Int.toNat_natCast, rep_int]
    obtain ⟨H2, e2, s2, hp2⟩ := fresh (.lst ((List.replicate i (0 : Int)).map V.int)) np2
    rw [e2]
    refine ⟨(by show 1 ≤ sizeLine; decide), fun p3 np3 => ?_⟩
    obtain ⟨H3, e3, s3, hp3⟩ := fresh (.lst [V.int 1]) np3
    rw [e3]
    refine ⟨p2, p3, _, _, rfl, rfl, s3 _ _ hp2, hp3, by rw [List.length_map, List.length_replicate, sizeLine_eq]; show _ + 1 ≤ _; omega, fun p4 np4 => ?_⟩
    obtain ⟨H4, e4, s4, hp4⟩ := fresh (.lst ((List.replicate i (0 : Int)).map V.int ++ [V.int 1])) np4
    rw [e4]
    refine ⟨(by show 1 ≤ sizeLine; decide), fun p5 np5 => ?_⟩
    obtain ⟨H5, e5, s5, hp5⟩ := fresh (.lst [V.int 0]) np5
    rw [e5]
    refine ⟨_, rfl, _, _, rfl, rfl, _, rfl, _, _, rfl, rfl, ?_⟩
    dsimp only
    refine ⟨p5, _, _, rfl, rfl, hp5, by omega, by omega, by rw [sizeLine_eq]; show 1 * _ ≤ _; omega, fun p6 np6 => ?_⟩
    rw [show (((n : Nat) : Int) - 1 - ((i : Nat) : Int)).toNat = n - 1 - i by omega, rep_int]
    obtain ⟨H6, e6, s6, hp6⟩ := fresh (.lst ((List.replicate (n - 1 - i) (0 : Int)).map V.int)) np6
    rw [e6]
    refine ⟨p4, p6, _, _, rfl, rfl, s6 _ _ (s5 _ _ hp4), hp6, by rw [List.length_append, List.length_map, List.length_map, List.length_replicate, List.length_replicate, sizeLine_eq]; show _ + 1 + _ ≤ _; omega, fun p7 np7 => ?_⟩
    have s16 := ((((s1.trans s2).trans s3).trans s4).trans s5).trans s6
    refine qt p7 _ (s16.trans (same_upd np7)) (s16.free np7) ?_
    rw [upd_same]
    refine congrArg (fun l => some (HO.lst l)) (rowZ_ext ?_ fun j hj => ?_)
    · rw [List.length_append, List.length_append, List.length_map, List.length_map, List.length_replicate, List.length_replicate]
      show i + 1 + _ = n
      omega
    · unfold dlt
      by_cases c1 : j < i
      · rw [List.getElem?_append_left (by rw [List.length_append, List.length_map, List.length_replicate]; omega), List.getElem?_append_left (by rw [List.length_map, List.length_replicate]; exact c1), List.getElem?_map, List.getElem?_replicate, if_pos c1, if_neg (by omega)]
        rfl
      · by_cases c2 : j = i
        · subst c2
          rw [List.getElem?_append_left (by rw [List.length_append, List.length_map, List.length_replicate]; exact Nat.lt_succ_self _), List.getElem?_append_right (by rw [List.length_map, List.length_replicate]; omega), List.length_map, List.length_replicate, Nat.sub_self, if_pos rfl]
          rfl
        · rw [List.getElem?_append_right (by rw [List.length_append, List.length_map, List.length_replicate]; show i + 1 ≤ j; omega), List.getElem?_map, List.getElem?_replicate, List.length_append, List.length_map, List.length_replicate, if_pos (by show j - (i + 1) < _; omega), if_neg (fun e => c2 e.symm)]
          rfl
  · intro H1 as s1 hD hl hR
    exact q H1 D as s1 nD hD hl ⟨hR.1, fun i a ha => hR.2 i a ha⟩
def sp_twos_of : Sp := fun vs H Q _ => ∃ (x : Int) (m : Nat), vs = [.int x, .int m] ∧ x.natAbs < 2 ^ 60 ∧ ∀ t : Nat, Twos x m t → Q (.int t) H
theorem G_twos_of (T : Top K mg) : FnOk P w K mg base CX0 1 T.f_twos_of T.fd_twos_of ["number", "most"] sp_twos_of := by
  refine T.F_twos_of.ok sc_twos_of (fun vs H Q E h => by obtain ⟨x, m, rfl, _⟩ := h; rfl) (fun cdv A outer s H vs Q E hr h => ?_)
  obtain ⟨x, m, rfl, hx, q⟩ := h
  refine ⟨_, PSs.nox (pss_cons (ps_if (pt_cmpR op_eq (pv 0) pe_int (nomark _))
    (pss_one (ps_ret (pv 1)))
    pss_nil)
  (pss_cons (ps_set (i := 2) sc_twos_of.nd rfl (by first | exact Or.inl rfl | exact Or.inr rfl) pe_int)
  (pss_cons (ps_while PassesOwn.never (PW.pt (pw_and (pt_cmpR op_lt (pv 2) (pv 1) (nomark _)) (pw_and1 (pt_cmpR op_eq (pe_op op_mod (pv 0) pe_int) pe_int (nomark _)))))
    (pss_one (ps_par (by rfl) sc_twos_of.nd (i := 2) (j := 0) rfl rfl (by decide) rfl rfl (pa_cons (pe_op op_add (pv 2) pe_int) (pa_cons (pe_op op_fdivW (pv 0) pe_int) pa_nil)) (by rfl))))
  (pss_one (ps_ret (pv 2)))))), ?_⟩
  refine ⟨_, rfl, rfl, _, rfl, ?_⟩
  by_cases c0 : x = 0
  · refine iteET c0 ?_
    exact ⟨_, rfl, q m ⟨Nat.le_refl _, by rw [c0]; exact Int.dvd_zero _, fun h => absurd h (Nat.lt_irrefl _)⟩⟩
  refine iteEF c0 ?_
  refine ⟨fun μ σ H2 => ∃ (t : Nat) (y : Int), μ = m - t ∧ σ = [some (.int y), some (.int m), some (.int (t : Nat))] ∧ H2 = H ∧ t ≤ m ∧ x = 2 ^ t * y, ⟨m, 0, x, rfl, rfl, rfl, Nat.zero_le _, by rw [Int.pow_zero, Int.one_mul]⟩, ?_⟩
  rintro μ σ H2 ⟨t, y, rfl, rfl, rfl, ht, hy⟩
  have fin : (t < m → ¬ y % 2 = 0) → Twos x m t := fun h => ⟨ht, ⟨y, hy⟩, fun hlt hd => h hlt (by
    rw [hy, Int.pow_succ] at hd
    have := Int.dvd_of_mul_dvd_mul_left (Int.ne_of_gt (Int.pow_pos (by decide))) hd
    omega)⟩
  refine ⟨_, rfl, _, rfl, _, _, rfl, rfl, _, rfl, ?_⟩
  by_cases c1 : t < m
  · refine iteDT (by omega) ?_
    refine ⟨_, rfl, _, _, rfl, rfl, (by show (0 : Int) < 2; decide), rfl, _, rfl, ?_⟩
    by_cases c2 : y % 2 = 0
    · refine iteET c2 ?_
      refine ⟨fun σ H3 => ∃ z : Int, σ = [some (.int z), some (.int m), some (.int (t + 1 : Nat))] ∧ H3 = H2 ∧ x = 2 ^ (t + 1) * z, fun σ' H' ⟨z, h1, h2, h3⟩ => ⟨m - (t + 1), by omega, t + 1, z, rfl, h1, h2, by omega, h3⟩, ?_⟩
      refine ⟨_, rfl, _, _, rfl, rfl, _, rfl, _, _, rfl, rfl, ⟨by decide, by decide +kernel⟩, ?_⟩
      refine ⟨_, _, rfl, y / 2, rfl, rfl, ?_⟩
      rw [Int.pow_succ, Int.mul_assoc, hy]
      congr 1
      omega
    · refine iteEF c2 ?_
      exact ⟨_, rfl, q t (fin fun _ => c2)⟩
  · refine iteDF (by omega) ?_
    exact ⟨_, rfl, q t (fin fun h => absurd h c1)⟩
def sp_inverse : Sp := fun vs H Q _ => ∃ (x : Int) (d : Nat), vs = [.int x, .int (2 ^ d)] ∧ 0 ≤ x ∧ x < 2 ^ 24 ∧ x % 2 = 1 ∧ 1 ≤ d ∧ d ≤ 24 ∧ ∀ c : Int, 0 ≤ c → c < 2 ^ d → (2 ^ d : Int) ∣ x * c - 1 → Q (.int c) H
theorem G_inverse (T : Top K mg) : FnOk P w K mg base CX0 1 T.f_inverse T.fd_inverse ["number", "size"] sp_inverse := by
  refine T.F_inverse.ok sc_inverse (fun vs H Q E h => by obtain ⟨x, d, rfl, _⟩ := h; rfl) (fun cdv A outer s H vs Q E hr h => ?_)
  obtain ⟨x, d, rfl, x0, x1, xo, d1, d2, q⟩ := h
  refine ⟨_, PSs.nox (pss_cons (ps_set (i := 2) sc_inverse.nd rfl (by first | exact Or.inl rfl | exact Or.inr rfl) pe_int)
  (pss_cons (ps_while PassesOwn.never (pt_cmpR op_ne (pe_op op_mod (pe_op op_mul (pv 0) (pv 2)) (pv 1)) (pe_op op_mod pe_int (pv 1)) (nomark _))
    (pss_one (ps_set (i := 2) sc_inverse.nd rfl (by first | exact Or.inl rfl | exact Or.inr rfl) (pe_op op_mod (pe_op op_mul (pv 2) (pe_op op_sub pe_int (pe_op op_mul (pv 0) (pv 2)))) (pv 1)))))
  (pss_one (ps_ret (pv 2))))), ?_⟩
  have hN : (0 : Int) < 2 ^ d := Int.pow_pos (by decide)
  have hN2 := two_le24 d2
  have hN1 : (2 : Int) ≤ 2 ^ d := by
    have := pow_dvd2 d1
    have := Int.le_of_dvd hN this
    omega
  refine ⟨fun μ σ H2 => ∃ (k : Nat) (c : Int), μ = d - k ∧ σ = [some (.int x), some (.int (2 ^ d)), some (.int c)] ∧ H2 = H ∧ 1 ≤ k ∧ k ≤ d ∧ 0 ≤ c ∧ c < 2 ^ d ∧ (2 ^ k : Int) ∣ x * c - 1, ⟨d - 1, 1, 1, rfl, rfl, rfl, Nat.le_refl _, d1, by decide, by omega, by show (2 : Int) ∣ _; omega⟩, ?_⟩
  rintro μ σ H2 ⟨k, c, rfl, rfl, rfl, k1, kd, c0, c1, hk⟩
  refine ⟨_, rfl, _, rfl, _, _, rfl, rfl, .inl ⟨by omega, by omega⟩, _, rfl, _, _, rfl, rfl, hN, _, rfl, _, _, rfl, rfl, hN, rfl, _, rfl, ?_⟩
  dsimp only
  by_cases e : x * c % 2 ^ d = 1 % 2 ^ d
  · refine iteENF e ?_
    exact ⟨_, rfl, q c c0 c1 (Int.dvd_of_emod_eq_zero (Int.emod_eq_emod_iff_emod_sub_eq_zero.mp e))⟩
  · refine iteENT e ?_
    have kd' : k < d := Nat.lt_of_not_le fun z => e (by
      obtain rfl : k = d := by omega
      exact Int.emod_eq_emod_iff_emod_sub_eq_zero.mpr (Int.emod_eq_zero_of_dvd hk))
    have hkk : (2 : Int) ^ k * 2 ^ k = 2 ^ (k + k) := (Int.pow_add _ _ _).symm
    have nw := newton (N := 2 ^ d) (x := x) (c := c) (k := 2 ^ k) (by
      rw [hkk]
      rcases Nat.le_total (k + k) d with z | z
      · exact .inl (pow_dvd2 z)
      · exact .inr (pow_dvd2 z)) hk
    rw [hkk] at nw
    refine ⟨fun σ H3 => ∃ (k' : Nat) (c' : Int), d - k' < d - k ∧ σ = [some (.int x), some (.int (2 ^ d)), some (.int c')] ∧ H3 = H2 ∧ 1 ≤ k' ∧ k' ≤ d ∧ 0 ≤ c' ∧ c' < 2 ^ d ∧ (2 ^ k' : Int) ∣ x * c' - 1, fun σ' H' ⟨k', c', h0, h⟩ => ⟨d - k', h0, k', c', rfl, h⟩, ?_⟩
    refine ⟨_, rfl, _, rfl, _, rfl, _, _, rfl, rfl, .inl ⟨by omega, by omega⟩, _, _, rfl, rfl, _, _, rfl, rfl, .inl ⟨by omega, by omega⟩, _, rfl, _, _, rfl, rfl, hN, ?_⟩
    dsimp only
    have c'0 := Int.emod_nonneg (c * (2 - x * c)) (Int.ne_of_gt hN)
    have c'1 := Int.emod_lt_of_pos (c * (2 - x * c)) hN
    rcases Nat.le_total (k + k) d with z | z
    · exact ⟨k + k, _, by omega, rfl, rfl, by omega, z, c'0, c'1, nw.2 (pow_dvd2 z)⟩
    · exact ⟨d, _, by omega, rfl, rfl, by omega, Nat.le_refl _, c'0, c'1, nw.1 (pow_dvd2 z)⟩
def sp_exchange_columns : Sp := fun vs H Q _ => ∃ (p : Addr) (as : List Addr) (H0 : Hp) (w a b : Nat) (M : Nat → Nat → Int), vs = [.ref p, .int a, .int b] ∧ H p = some (.lst (as.map V.ref)) ∧ Rw H0 p H as w M ∧ a < w ∧ b < w ∧ w ≤ 100 ∧ as.length ≤ 100 ∧ ∀ H', (∀ c o, c ∉ as → H c = some o → H' c = some o) → Rw H0 p H' as w (exC M a b) → Q .non H'
theorem G_exchange_columns (T : Top K mg) : FnOk P w K mg base CX0 1 T.f_exchange_columns T.fd_exchange_columns ["rows", "one", "other"] sp_exchange_columns := by
  refine T.F_exchange_columns.ok sc_exchange_columns (fun vs H Q E h => by obtain ⟨p, as, H0, w, a, b, M, rfl, _⟩ := h; rfl) (fun cdv A outer s H vs Q E hr h => ?_)
  obtain ⟨p, as, H0, w, a, b, M, rfl, hp, hR, ha, hb, hw, hl, q⟩ := h
  refine ⟨_, PSs.nox (pss_one (ps_for PassesOwn.never rfl (k_piL K rfl (pv 0)) (pg_name (i := 3) sc_exchange_columns.nd rfl (by first | exact Or.inl rfl | exact Or.inr rfl))
    (pss_one (ps_asg (pe_tup (pa_cons (pe_ix (k_ixL K rfl) (pv 3) (pv 2) (fun _ _ => rfl)) (pa_cons (pe_ix (k_ixL K rfl) (pv 3) (pv 1) (fun _ _ => rfl)) pa_nil))) (k_pgT K rfl (by rfl) (pgs_cons (pg_sub (pv 3) (pv 1) set_list) (pgs_cons (pg_sub (pv 3) (pv 2) set_list) pgs_nil))))))), ?_⟩
  refine ⟨_, rfl, p, rfl, ⟨_, .inl (.inl hp)⟩, ?_⟩
  refine for_list (K := K) (a := p) (xs := as.map V.ref) (fun i σ HA => ∃ v3 : Option V, σ = [some (.ref p), some (.int a), some (.int b), v3] ∧ (∀ c o, c ∉ as → H c = some o → HA c = some o) ∧ ∀ k r, as[k]? = some r → HA r = some (.lst (rowZ w (if k < i then exC M a b k else M k)))) ⟨none, rfl, fun c o _ h => h, fun k r hr => (hR.2 k r hr).2.2⟩ (fun i σ HA _ ⟨_, _, h, _⟩ => .inl (.inl (h _ _ (fun hm => (hR.mem hm).2.1 rfl) hp))) ?_ ?_
  · rintro i x σ HA hx ⟨v3, rfl, hout, hin⟩
    rw [List.getElem?_map] at hx
    obtain ⟨r, hr, rfl⟩ : ∃ r, as[i]? = some r ∧ x = .ref r := by
      cases e : as[i]? with
      | none => rw [e] at hx; cases hx
      | some r => rw [e] at hx; exact ⟨r, rfl, (Option.some.inj hx).symm⟩
    have hrow := hin i r hr
    rw [if_neg (Nat.lt_irrefl i)] at hrow
    have nr : r ∉ ([] : List Addr) := fun h => nomatch h
    refine ⟨_, rfl, _, rfl, r, _, _, _, rfl, rfl, .inl (.inl hrow), atI_nat (rowZ_get _ hb), _, rfl, _, rfl, r, _, _, _, rfl, rfl, .inl (.inl hrow), atI_nat (rowZ_get _ ha), (by show 2 ≤ sizeLine; decide), fun T nT => ?_⟩
    have sT := same_upd (o := .tup [V.int (M i b), V.int (M i a)]) nT
    have hrT := sT _ _ hrow
    refine ⟨T, _, rfl, .inl (.inl upd_same), rfl, ?_⟩
    generalize upd HA T (.tup [V.int (M i b), V.int (M i a)]) = HT at *
    refine ⟨_, _, rfl, _, rfl, _, rfl, r, _, _, a, rfl, rfl, hrT, ?_, ?_⟩
    · unfold ixN
      rw [if_pos (by omega), if_pos (by rw [rowZ_len]; omega)]
      rfl
    refine ⟨_, _, rfl, _, rfl, _, rfl, r, _, _, b, rfl, rfl, upd_same, ?_, ?_⟩
    · unfold ixN
      rw [if_pos (by omega), if_pos (by rw [List.length_set, rowZ_len]; omega)]
      rfl
    refine ⟨rfl, _, rfl, fun q o hq ho => ?_, in_next hR.1 hr (fun k r' hk => sT _ _ (hin k r' hk)) (fun q o hq ho => by rw [upd_ne hq, upd_ne hq]; exact ho) ?_⟩
    · have hqr : q ≠ r := fun z => hq (by rw [z]; exact List.mem_iff_getElem?.mpr ⟨i, hr⟩)
      rw [upd_ne hqr, upd_ne hqr]
      exact sT _ _ (hout q o hq ho)
    · rw [upd_same]
      refine congrArg (fun l => some (HO.lst l)) (rowZ_ext (by rw [List.length_set, List.length_set, rowZ_len]) fun j hj => ?_)
      rw [List.getElem?_set, List.getElem?_set, List.length_set, rowZ_len]
      show _ = some (V.int (M i (swp a b j)))
      unfold swp
      by_cases c2 : b = j
      · subst c2
        rw [if_pos rfl, if_pos hb]
        by_cases c3 : b = a
        · rw [if_pos c3, c3]
        · rw [if_neg c3, if_pos rfl]
      · rw [if_neg c2]
        by_cases c3 : a = j
        · subst c3
          rw [if_pos rfl, if_pos ha, if_pos rfl]
        · rw [if_neg c3, if_neg fun z => c3 z.symm, if_neg fun z => c2 z.symm, rowZ_get _ hj]
  · rintro σ HA ⟨v3, rfl, hout, hin⟩
    rw [List.length_map] at hin
    refine q HA hout ⟨hR.1, fun k r hr => ⟨(hR.2 k r hr).1, (hR.2 k r hr).2.1, ?_⟩⟩
    rw [hin k r hr, if_pos (List.getElem?_eq_some_iff.mp hr).1]
def sp_take_columns : Sp := fun vs H Q _ => ∃ (p : Addr) (as : List Addr) (H0 : Hp) (w a b : Nat) (c : Int) (M : Nat → Nat → Int), vs = [.ref p, .int b, .int a, .int c] ∧ H p = some (.lst (as.map V.ref)) ∧ Rw H0 p H as w M ∧ a < w ∧ b < w ∧ a ≠ b ∧ c.natAbs < 2 ^ 60 ∧ w ≤ 100 ∧ as.length ≤ 100 ∧ ∀ H', (∀ c o, c ∉ as → H c = some o → H' c = some o) → Rw H0 p H' as w (tkC M b a c) → Q .non H'
theorem G_take_columns (T : Top K mg) : FnOk P w K mg base CX0 1 T.f_take_columns T.fd_take_columns ["rows", "spot", "place", "factor"] sp_take_columns := by
  refine T.F_take_columns.ok sc_take_columns (fun vs H Q E h => by obtain ⟨p, as, H0, w, a, b, c, M, rfl, _⟩ := h; rfl) (fun cdv A outer s H vs Q E hr h => ?_)
  obtain ⟨p, as, H0, w, a, b, c, M, rfl, hp, hR, ha, hb, ab, hc, hw, hl, q⟩ := h
  refine ⟨_, PSs.nox (pss_one (ps_for PassesOwn.never rfl (k_piL K rfl (pv 0)) (pg_name (i := 4) sc_take_columns.nd rfl (by first | exact Or.inl rfl | exact Or.inr rfl))
    (pss_one (ps_asg (pe_op op_sub (pe_ix (k_ixL K rfl) (pv 4) (pv 1) (fun _ _ => rfl)) (pe_op op_mul (pv 3) (pe_ix (k_ixL K rfl) (pv 4) (pv 2) (fun _ _ => rfl)))) (pg_sub (pv 4) (pv 1) set_list))))), ?_⟩
  refine ⟨_, rfl, p, rfl, ⟨_, .inl (.inl hp)⟩, ?_⟩
  refine for_list (K := K) (a := p) (xs := as.map V.ref) (fun i σ HA => ∃ v3 : Option V, σ = [some (.ref p), some (.int b), some (.int a), some (.int c), v3] ∧ (∀ q o, q ∉ as → H q = some o → HA q = some o) ∧ ∀ k r, as[k]? = some r → HA r = some (.lst (rowZ w (if k < i then tkC M b a c k else M k)))) ⟨none, rfl, fun _ _ _ h => h, fun k r hr => (hR.2 k r hr).2.2⟩ (fun i σ HA _ ⟨_, _, h, _⟩ => .inl (.inl (h _ _ (fun hm => (hR.mem hm).2.1 rfl) hp))) ?_ ?_
  · rintro i x σ HA hx ⟨v3, rfl, hout, hin⟩
    rw [List.getElem?_map] at hx
    obtain ⟨r, hr, rfl⟩ : ∃ r, as[i]? = some r ∧ x = .ref r := by
      cases e : as[i]? with
      | none => rw [e] at hx; cases hx
      | some r => rw [e] at hx; exact ⟨r, rfl, (Option.some.inj hx).symm⟩
    have hrow := hin i r hr
    rw [if_neg (Nat.lt_irrefl i)] at hrow
    refine ⟨_, rfl, _, rfl, r, _, _, _, rfl, rfl, .inl (.inl hrow), atI_nat (rowZ_get _ hb), _, rfl, _, rfl, _, rfl, r, _, _, _, rfl, rfl, .inl (.inl hrow), atI_nat (rowZ_get _ ha), _, _, rfl, rfl, .inl ⟨by omega, by omega⟩, _, _, rfl, rfl, ?_⟩
    refine ⟨_, rfl, _, rfl, r, _, _, b, rfl, rfl, hrow, ?_, ?_⟩
    · unfold ixN
      rw [if_pos (by omega), if_pos (by rw [rowZ_len]; omega)]
      rfl
    refine ⟨_, rfl, fun q o hq ho => ?_, in_next hR.1 hr hin (fun q o hq ho => by rw [upd_ne hq]; exact ho) ?_⟩
    · rw [upd_ne fun z => hq (by rw [z]; exact List.mem_iff_getElem?.mpr ⟨i, hr⟩)]
      exact hout q o hq ho
    · rw [upd_same, rowZ_set (g := tkC M b a c i) hb (by show tkC M b a c i b = _; unfold tkC; rw [if_pos rfl]) fun j hj => by unfold tkC; rw [if_neg hj]; omega]
  · rintro σ HA ⟨v3, rfl, hout, hin⟩
    rw [List.length_map] at hin
    refine q HA hout ⟨hR.1, fun k r hr => ⟨(hR.2 k r hr).1, (hR.2 k r hr).2.1, ?_⟩⟩
    rw [hin k r hr, if_pos (List.getElem?_eq_some_iff.mp hr).1]
end
end My

namespace My
open PySem PySem.Spec PyProof.Rows L2 Pre
/-! ### a shape in a heap, and what may change in it -/
structure ShpX (C : Addr) (H0 H : Hp) (x dx : Addr) (d n w : Nat) (pg pl pr pp : Addr) (ag al ar : List Addr) (G L R : Nat → Nat → Int) (pw : List Nat) : Prop where
  hx : H x = some (.ins C dx [("size", .int (2 ^ d)), ("depth", .int (d : Nat)), ("wide", .int (w : Nat)), ("grid", .ref pg), ("left", .ref pl), ("right", .ref pr), ("powers", .ref pp)])
  hg : H pg = some (.lst (ag.map V.ref))
  hl : H pl = some (.lst (al.map V.ref))
  hr : H pr = some (.lst (ar.map V.ref))
  hp : H pp = some (.lst (nV pw))
  lg : ag.length = n
  ll : al.length = n
  lr : ar.length = w
  rg : Rw H0 pg H ag w G
  rl : Rw H0 pl H al n L
  rr : Rw H0 pr H ar w R
  nn : ∀ a ∈ [x, pg, pl, pr, pp], H0 a = none
  d1 : [x, pg, pl, pr, pp].Nodup
  d2 : ∀ a, a ∈ ag ∨ a ∈ al ∨ a ∈ ar → a ∉ [x, pg, pl, pr, pp]
  d3 : ∀ a ∈ ag, a ∉ al ∧ a ∉ ar
  d4 : ∀ a ∈ al, a ∉ ar
section
variable {C : Addr} {H0 H H' : Hp} {x dx : Addr} {d n w : Nat} {pg pl pr pp : Addr} {ag al ar : List Addr} {G L R G' L' R' : Nat → Nat → Int} {pw : List Nat}
theorem ShpX.same (h : ShpX C H0 H x dx d n w pg pl pr pp ag al ar G L R pw) (s : Same H H') : ShpX C H0 H' x dx d n w pg pl pr pp ag al ar G L R pw :=
  { h with hx := s _ _ h.hx, hg := s _ _ h.hg, hl := s _ _ h.hl, hr := s _ _ h.hr, hp := s _ _ h.hp, rg := h.rg.but fun b o _ e => s _ _ e, rl := h.rl.but fun b o _ e => s _ _ e, rr := h.rr.but fun b o _ e => s _ _ e }
/-- all lists of the shape hold something -/
theorem ShpX.held (h : ShpX C H0 H x dx d n w pg pl pr pp ag al ar G L R pw) {a : Addr} (ha : a ∈ [x, pg, pl, pr, pp] ∨ a ∈ ag ∨ a ∈ al ∨ a ∈ ar) : H0 a = none ∧ H a ≠ none := by
  rcases ha with k | k | k | k
  · refine ⟨h.nn a k, ?_⟩
    simp only [List.mem_cons, List.not_mem_nil, or_false] at k
    rcases k with rfl | rfl | rfl | rfl | rfl
    · rw [h.hx]; exact fun z => nomatch z
    · rw [h.hg]; exact fun z => nomatch z
    · rw [h.hl]; exact fun z => nomatch z
    · rw [h.hr]; exact fun z => nomatch z
    · rw [h.hp]; exact fun z => nomatch z
  · obtain ⟨a1, _, o, ho⟩ := h.rg.mem k
    exact ⟨a1, by rw [ho]; exact fun z => nomatch z⟩
  · obtain ⟨a1, _, o, ho⟩ := h.rl.mem k
    exact ⟨a1, by rw [ho]; exact fun z => nomatch z⟩
  · obtain ⟨a1, _, o, ho⟩ := h.rr.mem k
    exact ⟨a1, by rw [ho]; exact fun z => nomatch z⟩
theorem mem_set_or {l : List Addr} {k : Nat} {q a : Addr} (h : a ∈ l.set k q) : a ∈ l ∨ a = q := List.mem_or_eq_of_mem_set h
/-- a row of the grid by a new list -/
theorem ShpX.setG (h : ShpX C H0 H x dx d n w pg pl pr pp ag al ar G L R pw) (s0 : Same H0 H) {q : Addr} {k : Nat} (s : ∀ c o, c ≠ pg → H c = some o → H' c = some o) (hg : H' pg = some (.lst ((ag.set k q).map V.ref))) (nq : H q = none) (hq : H' q = some (.lst (rowZ w (G' k)))) (e : ∀ i j, i ≠ k → j < w → G i j = G' i j) :
    ShpX C H0 H' x dx d n w pg pl pr pp (ag.set k q) al ar G' L R pw := by
  have qno : ∀ {a : Addr}, (a ∈ [x, pg, pl, pr, pp] ∨ a ∈ ag ∨ a ∈ al ∨ a ∈ ar) → a ≠ q := fun ha z => (h.held ha).2 (z ▸ nq)
  have g1 : ∀ {a : Addr}, a ∈ ag ∨ a ∈ al ∨ a ∈ ar → a ≠ pg := fun ha z => h.d2 _ ha (by rw [z]; simp)
  have d1 := h.d1
  simp only [List.nodup_cons, List.mem_cons, List.not_mem_nil, or_false, not_or] at d1
  have agn : ∀ b o, b ≠ pg → H b = some o → H' b = some o := s
  refine { h with hx := s _ _ (fun z => d1.1.1 z) h.hx, hg := hg, hl := s _ _ (fun z => d1.2.1.1 z.symm) h.hl, hr := s _ _ (fun z => d1.2.1.2.1 z.symm) h.hr, hp := s _ _ (fun z => d1.2.1.2.2 z.symm) h.hp, lg := by rw [List.length_set]; exact h.lg, rg := (h.rg.but s).set (s0.free nq) (fun z => qno (.inl (by simp : pg ∈ _)) z.symm) hq (fun hm => qno (.inr (.inl hm)) rfl) e, rl := ?_, rr := ?_, d2 := fun a ha => ?_, d3 := fun a ha => ?_ }
  · refine ⟨h.rl.1, fun i a ha => ?_⟩
    obtain ⟨a1, a2, a3⟩ := h.rl.2 i a ha
    exact ⟨a1, a2, s _ _ (g1 (.inr (.inl (List.mem_iff_getElem?.mpr ⟨i, ha⟩)))) a3⟩
  · refine ⟨h.rr.1, fun i a ha => ?_⟩
    obtain ⟨a1, a2, a3⟩ := h.rr.2 i a ha
    exact ⟨a1, a2, s _ _ (g1 (.inr (.inr (List.mem_iff_getElem?.mpr ⟨i, ha⟩)))) a3⟩
  · rcases ha with ha | ha
    · rcases mem_set_or ha with ha | rfl
      · exact h.d2 a (.inl ha)
      · exact fun hm => qno (.inl hm) rfl
    · exact h.d2 a (.inr ha)
  · rcases mem_set_or ha with ha | rfl
    · exact h.d3 a ha
    · exact ⟨fun hm => qno (.inr (.inr (.inl hm))) rfl, fun hm => qno (.inr (.inr (.inr hm))) rfl⟩
/-- a row of the left by a new list -/
theorem ShpX.setL (h : ShpX C H0 H x dx d n w pg pl pr pp ag al ar G L R pw) (s0 : Same H0 H) {q : Addr} {k : Nat} (s : ∀ c o, c ≠ pl → H c = some o → H' c = some o) (hl : H' pl = some (.lst ((al.set k q).map V.ref))) (nq : H q = none) (hq : H' q = some (.lst (rowZ n (L' k)))) (e : ∀ i j, i ≠ k → j < n → L i j = L' i j) :
    ShpX C H0 H' x dx d n w pg pl pr pp ag (al.set k q) ar G L' R pw := by
  have qno : ∀ {a : Addr}, (a ∈ [x, pg, pl, pr, pp] ∨ a ∈ ag ∨ a ∈ al ∨ a ∈ ar) → a ≠ q := fun ha z => (h.held ha).2 (z ▸ nq)
  have g1 : ∀ {a : Addr}, a ∈ ag ∨ a ∈ al ∨ a ∈ ar → a ≠ pl := fun ha z => h.d2 _ ha (by rw [z]; simp)
  have d1 := h.d1
  simp only [List.nodup_cons, List.mem_cons, List.not_mem_nil, or_false, not_or] at d1
  refine { h with hx := s _ _ (fun z => d1.1.2.1 z) h.hx, hg := s _ _ (fun z => d1.2.1.1 z) h.hg, hl := hl, hr := s _ _ (fun z => d1.2.2.1.1 z.symm) h.hr, hp := s _ _ (fun z => d1.2.2.1.2 z.symm) h.hp, ll := by rw [List.length_set]; exact h.ll, rl := (h.rl.but s).set (s0.free nq) (fun z => qno (.inl (by simp : pl ∈ _)) z.symm) hq (fun hm => qno (.inr (.inr (.inl hm))) rfl) e, rg := ?_, rr := ?_, d2 := fun a ha => ?_, d3 := fun a ha => ?_, d4 := fun a ha => ?_ }
  · refine ⟨h.rg.1, fun i a ha => ?_⟩
    obtain ⟨a1, a2, a3⟩ := h.rg.2 i a ha
    exact ⟨a1, a2, s _ _ (g1 (.inl (List.mem_iff_getElem?.mpr ⟨i, ha⟩))) a3⟩
  · refine ⟨h.rr.1, fun i a ha => ?_⟩
    obtain ⟨a1, a2, a3⟩ := h.rr.2 i a ha
    exact ⟨a1, a2, s _ _ (g1 (.inr (.inr (List.mem_iff_getElem?.mpr ⟨i, ha⟩)))) a3⟩
  · rcases ha with ha | ha | ha
    · exact h.d2 a (.inl ha)
    · rcases mem_set_or ha with ha | rfl
      · exact h.d2 a (.inr (.inl ha))
      · exact fun hm => qno (.inl hm) rfl
    · exact h.d2 a (.inr (.inr ha))
  · refine ⟨fun hm => ?_, (h.d3 a ha).2⟩
    rcases mem_set_or hm with hm | rfl
    · exact (h.d3 a ha).1 hm
    · exact qno (.inr (.inl ha)) rfl
  · rcases mem_set_or ha with ha | rfl
    · exact h.d4 a ha
    · exact fun hm => qno (.inr (.inr (.inr hm))) rfl
/-- rows of the grid changed where they stand -/
theorem ShpX.inG (h : ShpX C H0 H x dx d n w pg pl pr pp ag al ar G L R pw) (s : ∀ c o, c ∉ ag → H c = some o → H' c = some o) (hR : Rw H0 pg H' ag w G') : ShpX C H0 H' x dx d n w pg pl pr pp ag al ar G' L R pw := by
  have out : ∀ {a : Addr}, a ∈ [x, pg, pl, pr, pp] → a ∉ ag := fun ha hm => h.d2 _ (.inl hm) ha
  refine { h with hx := s _ _ (out (by simp)) h.hx, hg := s _ _ (out (by simp)) h.hg, hl := s _ _ (out (by simp)) h.hl, hr := s _ _ (out (by simp)) h.hr, hp := s _ _ (out (by simp)) h.hp, rg := hR, rl := ⟨h.rl.1, fun i a ha => ?_⟩, rr := ⟨h.rr.1, fun i a ha => ?_⟩ }
  · obtain ⟨a1, a2, a3⟩ := h.rl.2 i a ha
    exact ⟨a1, a2, s _ _ (fun hm => (h.d3 a hm).1 (List.mem_iff_getElem?.mpr ⟨i, ha⟩)) a3⟩
  · obtain ⟨a1, a2, a3⟩ := h.rr.2 i a ha
    exact ⟨a1, a2, s _ _ (fun hm => (h.d3 a hm).2 (List.mem_iff_getElem?.mpr ⟨i, ha⟩)) a3⟩
/-- rows of the right changed where they stand -/
theorem ShpX.inR (h : ShpX C H0 H x dx d n w pg pl pr pp ag al ar G L R pw) (s : ∀ c o, c ∉ ar → H c = some o → H' c = some o) (hR : Rw H0 pr H' ar w R') : ShpX C H0 H' x dx d n w pg pl pr pp ag al ar G L R' pw := by
  have out : ∀ {a : Addr}, a ∈ [x, pg, pl, pr, pp] → a ∉ ar := fun ha hm => h.d2 _ (.inr (.inr hm)) ha
  refine { h with hx := s _ _ (out (by simp)) h.hx, hg := s _ _ (out (by simp)) h.hg, hl := s _ _ (out (by simp)) h.hl, hr := s _ _ (out (by simp)) h.hr, hp := s _ _ (out (by simp)) h.hp, rr := hR, rl := ⟨h.rl.1, fun i a ha => ?_⟩, rg := ⟨h.rg.1, fun i a ha => ?_⟩ }
  · obtain ⟨a1, a2, a3⟩ := h.rg.2 i a ha
    exact ⟨a1, a2, s _ _ (fun hm => (h.d3 a (List.mem_iff_getElem?.mpr ⟨i, ha⟩)).2 hm) a3⟩
  · obtain ⟨a1, a2, a3⟩ := h.rl.2 i a ha
    exact ⟨a1, a2, s _ _ (fun hm => h.d4 a (List.mem_iff_getElem?.mpr ⟨i, ha⟩) hm) a3⟩
end
end My

namespace My
open PySem PySem.Spec PyProof.Rows L2 Pre
/-! ### rows of a shape exchanged -/
theorem get_swap {α : Type} {l : List α} {a b : Nat} {x y : α} (ha : l[a]? = some x) (hb : l[b]? = some y) (k : Nat) : ((l.set a y).set b x)[k]? = l[swp a b k]? := by
  have la := (List.getElem?_eq_some_iff.mp ha).1
  have lb := (List.getElem?_eq_some_iff.mp hb).1
  rw [List.getElem?_set, List.getElem?_set, List.length_set]
  unfold swp
  by_cases c2 : b = k
  · subst c2
    rw [if_pos rfl, if_pos lb]
    by_cases c3 : b = a
    · rw [if_pos c3, ← ha, c3]
    · rw [if_neg c3, if_pos rfl, ha]
  · rw [if_neg c2]
    by_cases c3 : a = k
    · subst c3
      rw [if_pos rfl, if_pos la, if_pos rfl, hb]
    · rw [if_neg c3, if_neg fun z => c3 z.symm, if_neg fun z => c2 z.symm]
theorem nodup_inj {l : List Addr} (h : l.Nodup) {i j : Nat} {x : Addr} (hi : l[i]? = some x) (hj : l[j]? = some x) : i = j := by
  have li := (List.getElem?_eq_some_iff.mp hi).1
  have lj := (List.getElem?_eq_some_iff.mp hj).1
  rcases Nat.lt_trichotomy i j with k | k | k
  · exact absurd (hi.trans hj.symm) (nodup_at.mp h i j k lj)
  · exact k
  · exact absurd (hj.trans hi.symm) (nodup_at.mp h j i k li)
theorem nodup_swap {l : List Addr} (h : l.Nodup) {a b : Nat} {x y : Addr} (ha : l[a]? = some x) (hb : l[b]? = some y) : ((l.set a y).set b x).Nodup := nodup_at.mpr fun i j hij hj e => by
  have ll : ((l.set a y).set b x).length = l.length := by rw [List.length_set, List.length_set]
  rw [get_swap ha hb, get_swap ha hb] at e
  have la := (List.getElem?_eq_some_iff.mp ha).1
  have lb := (List.getElem?_eq_some_iff.mp hb).1
  have sj := swp_lt la lb (show j < l.length by omega)
  have hx := List.getElem?_eq_getElem sj
  have := nodup_inj h (e.trans hx) hx
  have := congrArg (swp a b) this
  rw [swp_swp, swp_swp] at this
  omega
theorem mem_swap {l : List Addr} {a b : Nat} {x y c : Addr} (ha : l[a]? = some x) (hb : l[b]? = some y) (h : c ∈ (l.set a y).set b x) : c ∈ l := by
  obtain ⟨k, hk⟩ := List.mem_iff_getElem?.mp h
  rw [get_swap ha hb] at hk
  exact List.mem_iff_getElem?.mpr ⟨_, hk⟩
section
variable {C : Addr} {H0 H H' : Hp} {x dx : Addr} {d n w : Nat} {pg pl pr pp : Addr} {ag al ar : List Addr} {G L R G' L' R' : Nat → Nat → Int} {pw : List Nat}
theorem Rw.swap {f : Addr} {as : List Addr} {M : Nat → Nat → Int} (h : Rw H0 f H as w M) (s : ∀ c o, c ≠ f → H c = some o → H' c = some o) {a b : Nat} {ra rb : Addr} (hra : as[a]? = some ra) (hrb : as[b]? = some rb) : Rw H0 f H' ((as.set a rb).set b ra) w fun i j => M (swp a b i) j := by
  refine ⟨nodup_swap h.1 hra hrb, fun i c hc => ?_⟩
  rw [get_swap hra hrb] at hc
  obtain ⟨a1, a2, a3⟩ := h.2 _ c hc
  exact ⟨a1, a2, s _ _ a2 a3⟩
theorem ShpX.swG (h : ShpX C H0 H x dx d n w pg pl pr pp ag al ar G L R pw) (s : ∀ c o, c ≠ pg → H c = some o → H' c = some o) {a b : Nat} {ra rb : Addr} (hra : ag[a]? = some ra) (hrb : ag[b]? = some rb) (hg : H' pg = some (.lst (((ag.set a rb).set b ra).map V.ref))) :
    ShpX C H0 H' x dx d n w pg pl pr pp ((ag.set a rb).set b ra) al ar (fun i j => G (swp a b i) j) L R pw := by
  have g1 : ∀ {a : Addr}, a ∈ ag ∨ a ∈ al ∨ a ∈ ar → a ≠ pg := fun ha z => h.d2 _ ha (by rw [z]; simp)
  have d1 := h.d1
  simp only [List.nodup_cons, List.mem_cons, List.not_mem_nil, or_false, not_or] at d1
  refine { h with hx := s _ _ (fun z => d1.1.1 z) h.hx, hg := hg, hl := s _ _ (fun z => d1.2.1.1 z.symm) h.hl, hr := s _ _ (fun z => d1.2.1.2.1 z.symm) h.hr, hp := s _ _ (fun z => d1.2.1.2.2 z.symm) h.hp, lg := by rw [List.length_set, List.length_set]; exact h.lg, rg := h.rg.swap s hra hrb, rl := ⟨h.rl.1, fun i c hc => ?_⟩, rr := ⟨h.rr.1, fun i c hc => ?_⟩, d2 := fun c hc => ?_, d3 := fun c hc => h.d3 c (mem_swap hra hrb hc) }
  · obtain ⟨a1, a2, a3⟩ := h.rl.2 i c hc
    exact ⟨a1, a2, s _ _ (g1 (.inr (.inl (List.mem_iff_getElem?.mpr ⟨i, hc⟩)))) a3⟩
  · obtain ⟨a1, a2, a3⟩ := h.rr.2 i c hc
    exact ⟨a1, a2, s _ _ (g1 (.inr (.inr (List.mem_iff_getElem?.mpr ⟨i, hc⟩)))) a3⟩
  · rcases hc with hc | hc
    · exact h.d2 c (.inl (mem_swap hra hrb hc))
    · exact h.d2 c (.inr hc)
theorem ShpX.swL (h : ShpX C H0 H x dx d n w pg pl pr pp ag al ar G L R pw) (s : ∀ c o, c ≠ pl → H c = some o → H' c = some o) {a b : Nat} {ra rb : Addr} (hra : al[a]? = some ra) (hrb : al[b]? = some rb) (hl : H' pl = some (.lst (((al.set a rb).set b ra).map V.ref))) :
    ShpX C H0 H' x dx d n w pg pl pr pp ag ((al.set a rb).set b ra) ar G (fun i j => L (swp a b i) j) R pw := by
  have g1 : ∀ {a : Addr}, a ∈ ag ∨ a ∈ al ∨ a ∈ ar → a ≠ pl := fun ha z => h.d2 _ ha (by rw [z]; simp)
  have d1 := h.d1
  simp only [List.nodup_cons, List.mem_cons, List.not_mem_nil, or_false, not_or] at d1
  refine { h with hx := s _ _ (fun z => d1.1.2.1 z) h.hx, hg := s _ _ (fun z => d1.2.1.1 z) h.hg, hl := hl, hr := s _ _ (fun z => d1.2.2.1.1 z.symm) h.hr, hp := s _ _ (fun z => d1.2.2.1.2 z.symm) h.hp, ll := by rw [List.length_set, List.length_set]; exact h.ll, rl := h.rl.swap s hra hrb, rg := ⟨h.rg.1, fun i c hc => ?_⟩, rr := ⟨h.rr.1, fun i c hc => ?_⟩, d2 := fun c hc => ?_, d3 := fun c hc => ⟨fun hm => (h.d3 c hc).1 (mem_swap hra hrb hm), (h.d3 c hc).2⟩, d4 := fun c hc => h.d4 c (mem_swap hra hrb hc) }
  · obtain ⟨a1, a2, a3⟩ := h.rg.2 i c hc
    exact ⟨a1, a2, s _ _ (g1 (.inl (List.mem_iff_getElem?.mpr ⟨i, hc⟩))) a3⟩
  · obtain ⟨a1, a2, a3⟩ := h.rr.2 i c hc
    exact ⟨a1, a2, s _ _ (g1 (.inr (.inr (List.mem_iff_getElem?.mpr ⟨i, hc⟩)))) a3⟩
  · rcases hc with hc | hc | hc
    · exact h.d2 c (.inl hc)
    · exact h.d2 c (.inr (.inl (mem_swap hra hrb hc)))
    · exact h.d2 c (.inr (.inr hc))
/-- other powers -/
theorem ShpX.app (h : ShpX C H0 H x dx d n w pg pl pr pp ag al ar G L R pw) (s : ∀ c o, c ≠ pp → H c = some o → H' c = some o) {pw' : List Nat} (hp : H' pp = some (.lst (nV pw'))) : ShpX C H0 H' x dx d n w pg pl pr pp ag al ar G L R pw' := by
  have g1 : ∀ {a : Addr}, a ∈ ag ∨ a ∈ al ∨ a ∈ ar → a ≠ pp := fun ha z => h.d2 _ ha (by rw [z]; simp)
  have d1 := h.d1
  simp only [List.nodup_cons, List.mem_cons, List.not_mem_nil, or_false, not_or] at d1
  refine { h with hx := s _ _ (fun z => d1.1.2.2.2 z) h.hx, hg := s _ _ (fun z => d1.2.1.2.2 z) h.hg, hl := s _ _ (fun z => d1.2.2.1.2 z) h.hl, hr := s _ _ (fun z => d1.2.2.2.1 z) h.hr, hp := hp, rg := ⟨h.rg.1, fun i c hc => ?_⟩, rl := ⟨h.rl.1, fun i c hc => ?_⟩, rr := ⟨h.rr.1, fun i c hc => ?_⟩ }
  · obtain ⟨a1, a2, a3⟩ := h.rg.2 i c hc
    exact ⟨a1, a2, s _ _ (g1 (.inl (List.mem_iff_getElem?.mpr ⟨i, hc⟩))) a3⟩
  · obtain ⟨a1, a2, a3⟩ := h.rl.2 i c hc
    exact ⟨a1, a2, s _ _ (g1 (.inr (.inl (List.mem_iff_getElem?.mpr ⟨i, hc⟩)))) a3⟩
  · obtain ⟨a1, a2, a3⟩ := h.rr.2 i c hc
    exact ⟨a1, a2, s _ _ (g1 (.inr (.inr (List.mem_iff_getElem?.mpr ⟨i, hc⟩)))) a3⟩
end
end My

namespace My
open PySem PySem.Spec PyProof.Rows L2 Pre
/-! ### shapes: the class -/
/-- a shape: its rows are its own since H0 -/
def ShpAt (C : Addr) (H0 H : Hp) (x : Addr) (d n w : Nat) (G L R : Nat → Nat → Int) (pw : List Nat) : Prop := ∃ (dx pg pl pr pp : Addr) (ag al ar : List Addr), ShpX C H0 H x dx d n w pg pl pr pp ag al ar G L R pw
/-- a row less so often another one -/
def rowT (d lo at' : Nat) (f : Int) (M : Nat → Nat → Int) : Nat → Nat → Int := fun i j => if i = lo then (M lo j - f * M at' j) % 2 ^ d else M i j
/-- a column less so often another one -/
def colT (d b a : Nat) (c : Int) (M : Nat → Nat → Int) : Nat → Nat → Int := fun i j => if j = b then (M i b - c * M i a) % 2 ^ d else M i j
def tripD (a b c : Int) : PyData := .tuple [.int a, .int b, .int c]
theorem trip_fst (a b c p q r : Int) : (PySem.W.dataLt (tripD a b c) (tripD p q r) = true → a ≤ p) ∧ (PySem.W.dataLt (tripD a b c) (tripD p q r) = false → p ≤ a) := by
  unfold tripD
  rw [PySem.W.dataLt_tuple, PySem.W.dataLt_cons (by simp [PySem.W.alike]), PySem.W.dataLt_int]
  simp only [PyData.eqv, beq_iff_eq]
  by_cases h : a = p
  · subst h
    exact ⟨fun _ => Int.le_refl _, fun _ => Int.le_refl _⟩
  · rw [if_neg h]
    exact ⟨fun z => by have := of_decide_eq_true z; omega, fun z => by have := of_decide_eq_false z; omega⟩
theorem trip_alike (a b c p q r : Int) : PySem.W.AlikeAll [tripD a b c, tripD p q r] := by
  refine ⟨fun x hx y hy => ?_, fun x hx => ?_⟩
  · simp only [List.mem_cons, List.not_mem_nil, or_false] at hx hy
    rcases hx with rfl | rfl <;> rcases hy with rfl | rfl <;> rfl
  · simp only [List.mem_cons, List.not_mem_nil, or_false] at hx
    rcases hx with rfl | rfl <;> exact fun z => nomatch z
theorem trip_depth (a b c p q r : Int) : PyData.depthAll [tripD a b c, tripD p q r] ≤ 2 := by
  simp only [PyData.depthAll, tripD, PyData.depth]
  omega
theorem dvd_pow_le {a b : Nat} {x : Int} (h : a ≤ b) (k : (2 ^ b : Int) ∣ x) : (2 ^ a : Int) ∣ x := Int.dvd_trans (pow_dvd2 h) k
local macro_rules | `(tactic| walk_at "go") => `(tactic| repeat (first | (with_reducible first | refine iteT ?_ | refine iteF ?_ | refine iteNtt ?_ | refine iteNff ?_ | refine iteET (by omega) ?_ | refine iteEF (by omega) ?_ | refine iteENT (by omega) ?_ | refine iteENF (by omega) ?_ | refine iteDT (by omega) ?_ | refine iteDF (by omega) ?_ | refine iteNT (by omega) ?_ | refine iteNF (by omega) ?_) | refine ⟨_, rfl, ?_⟩ | refine ⟨_, _, rfl, rfl, ?_⟩ | refine ⟨_, _, rfl, ?_⟩ | refine ⟨rfl, ?_⟩ | refine .inl ⟨_, rfl, ?_⟩ | refine .inr ⟨_, rfl, ?_⟩))
local macro_rules | `(tactic| walk_at "b") => `(tactic| try dsimp (config := { proj := false, iota := false, eta := false, zeta := false }) only)
section
variable {P : Program} {w : World} {K : PySem.W.Frag} {mg : Str → Option Value} {base : Heap}
def sp_Shape_lessened (C : Addr) : Sp := fun vs H Q _ => ∃ (x p dx : Addr) (fs : List (Str × V)) (d : Nat) (xs : List Int), vs = [.ref x, .ref p] ∧ H x = some (.ins C dx (("size", .int (2 ^ d)) :: fs)) ∧ H p = some (.lst (xs.map V.int)) ∧ xs.length ≤ 1000 ∧ ∀ H' q, Same H H' → H q = none → H' q = some (.lst (rowZ xs.length fun i => xs.getD i 0 % 2 ^ d)) → Q (.ref q) H'
theorem G_Shape_lessened (T : Top K mg) : FnOk P w K mg base CX0 1 T.f_Shape_lessened T.fd_Shape_lessened ["self", "row"] (sp_Shape_lessened T.C_Shape) := by
  refine T.F_Shape_lessened.ok sc_Shape_lessened (fun vs H Q E h => by obtain ⟨x, p, dx, fs, d, xs, rfl, _⟩ := h; rfl) (fun cdv A outer s H vs Q E hr h => ?_)
  obtain ⟨x, p, dx, fs, d, xs, rfl, hx, hp, hz, q⟩ := h
  refine ⟨_, PSs.nox (pss_one (ps_ret (pe_lc (own := [("number", 2)]) (g := gName 2) (tt := tYes) (by rfl) sc_Shape_lessened.nd (k_piL K rfl (pv 1)) (blkOk_by (own := [("number", 2)]) (N := N_Shape_lessened) (sc := defScope s_Shape_lessened) (by decide +kernel)) (fun _ _ _ _ _ => (pg_name (i := 2) sc_Shape_lessened.nd rfl (by first | exact Or.inl rfl | exact Or.inr rfl))) (fun _ _ _ _ _ => pts_nil) (fun _ _ _ _ _ => (pe_op op_mod (pv 2) (k_fld K rfl (pv 0) rfl)))))), ?_⟩
  have hN : (0 : Int) < 2 ^ d := Int.pow_pos (by decide)
  refine ⟨_, rfl, p, rfl, ⟨_, .inl (.inl hp)⟩, fun D nD => ?_⟩
  refine lc_mapL (K := K) (xs := xs.map V.int) (rowZ xs.length fun i => xs.getD i 0 % 2 ^ d) nD (.inl (.inl hp)) (by rw [rowZ_len, List.length_map]) (by rw [List.length_map]; exact small4 (by omega)) (fun x => rfl) ?_ ?_
  · intro i x' y H' hx' hy s Qt qt
    obtain ⟨e, he, rfl⟩ := int_at hx'
    have hi := (List.getElem?_eq_some_iff.mp he).1
    rw [rowZ_get _ hi, List.getD_eq_getElem?_getD, he] at hy
    cases hy
    exact ⟨_, rfl, _, rfl, x, T.C_Shape, dx, _, _, rfl, s _ _ hx, T.cl_Shape, T.na_Shape_size, rfl, _, _, rfl, rfl, hN, qt _ (Same.refl _)⟩
  · intro H1 s1 hD
    exact q H1 D s1 nD hD
def sp_Shape_best (K : PySem.W.Frag) (C : Addr) : Sp := fun vs H Q _ => ∃ (H0 : Hp) (x : Addr) (d n w at' : Nat) (G L R : Nat → Nat → Int) (pw : List Nat), vs = [.ref x, .int at'] ∧ ShpAt C H0 H x d n w G L R pw ∧ at' < n ∧ at' < w ∧ n ≤ 100 ∧ w ≤ 100 ∧ d ≤ 24 ∧ (∀ i j, i < n → j < w → (G i j).natAbs < 2 ^ 60) ∧
  ∀ H' t (p a b : Nat), Same H H' → H' t = some (.tup [.int (p : Nat), .int (a : Nat), .int (b : Nat)]) → at' ≤ a → a < n → at' ≤ b → b < w → p ≤ d → (p < d → Twos (G a b) d p) → (∀ i j, at' ≤ i → i < n → at' ≤ j → j < w → (2 ^ p : Int) ∣ G i j) → Q (.ref t) H'
theorem G_Shape_best (T : Top K mg) : FnOk P w K mg base CX0 2 T.f_Shape_best T.fd_Shape_best ["self", "at"] (sp_Shape_best K T.C_Shape) := by
  refine T.F_Shape_best.ok sc_Shape_best (fun vs H Q E h => by obtain ⟨H0, x, d, n, w, at', G, L, R, pw, rfl, _⟩ := h; rfl) (fun cdv A outer s H vs Q E hr h => ?_)
  obtain ⟨H0, x, d, n, w, at', G, L, R, pw, rfl, hS, an, aw, hn, hw, hd, hG, q⟩ := h
  refine ⟨_, PSs.nox (pss_cons (ps_set (i := 2) sc_Shape_best.nd rfl (by first | exact Or.inl rfl | exact Or.inr rfl) (pe_tup (pa_cons (pe_fld (pv 0) rfl) (pa_cons (pv 1) (pa_cons (pv 1) pa_nil)))))
  (pss_cons (ps_for PassesOwn.never rfl (pi_range2 (by rfl) T.n_range (pa_cons (pv 1) (pa_cons (pe_callB (k_len K rfl) (by rfl) T.n_len (by decide +kernel) (pa_cons (pe_fld (pv 0) rfl) pa_nil)) pa_nil))) (pg_name (i := 3) sc_Shape_best.nd rfl (by first | exact Or.inl rfl | exact Or.inr rfl))
    (pss_one (ps_for PassesOwn.never rfl (pi_range2 (by rfl) T.n_range (pa_cons (pv 1) (pa_cons (pe_fld (pv 0) rfl) pa_nil))) (pg_name (i := 4) sc_Shape_best.nd rfl (by first | exact Or.inl rfl | exact Or.inr rfl))
    (pss_one (ps_if (pt_cmpR op_gt (pe_ix (k_ixT K rfl) (pv 2) pe_int (fun _ _ => rfl)) pe_int (nomark _))
    (pss_one (ps_set (i := 2) sc_Shape_best.nd rfl (by first | exact Or.inl rfl | exact Or.inr rfl) (pe_callB (k_min2D K rfl rfl (huM hr)) (by rfl) T.n_min (by decide +kernel) (pa_cons (pv 2) (pa_cons (pe_tup (pa_cons (pe_call (G_twos_of (P := P) T) (hr.mono (by decide)) (by rfl) T.g_twos_of T.F_twos_of.kp T.b_twos_of .nil pass0 (pa_cons (pe_ix (k_ixL K rfl) (pe_ix (k_ixL K rfl) (pe_fld (pv 0) rfl) (pv 3) (fun _ _ => rfl)) (pv 4) (fun _ _ => rfl)) (pa_cons (pe_fld (pv 0) rfl) pa_nil))) (pa_cons (pv 3) (pa_cons (pv 4) pa_nil)))) pa_nil)))))
    pss_nil)))))
  (pss_one (ps_ret (pv 2))))), ?_⟩
  obtain ⟨dx, pg, pl, pr, pp, ag, al, ar, hX⟩ := hS
  have hx := hX.hx; have hpg := hX.hg; have lg := hX.lg; have hRg := hX.rg
  refine ⟨_, rfl, x, T.C_Shape, dx, _, _, rfl, hx, T.cl_Shape, T.na_Shape_depth, rfl, _, rfl, _, rfl, (by show 3 ≤ sizeLine; decide), fun t0 nt0 => ?_⟩
  obtain ⟨H1, e1, s1, ht0⟩ := fresh (.tup [V.int (d : Nat), .int (at' : Nat), .int (at' : Nat)]) nt0
  rw [e1]
  have g1 := s1 _ _ hpg
  refine ⟨_, rfl, _, rfl, x, T.C_Shape, dx, _, _, rfl, s1 _ _ hx, T.cl_Shape, T.na_Shape_grid, rfl, pg, _, rfl, .inl (.inl (.inl g1)), ?_⟩
  rw [List.length_map, lg]
  refine ⟨_, _, rfl, ⟨by omega, by omega, by omega, by omega⟩, ?_⟩
  rw [show (((n : Nat) : Int) - ((at' : Nat) : Int)).toNat = n - at' by omega]
  have Gok : ∀ {i' : Nat}, i' < n → ∃ r, ag[i']? = some r ∧ H r = some (.lst (rowZ w (G i'))) := fun {i'} hi => ⟨ag[i']'(by omega), List.getElem?_eq_getElem (by omega), (hRg.2 i' _ (List.getElem?_eq_getElem (by omega))).2.2⟩
  refine for_range (lo := ((at' : Nat) : Int)) (n := n - at') (fun i σ HA => ∃ (t : Addr) (p a b : Nat) (v3 v4 : Option V), σ = [some (.ref x), some (.int at'), some (.ref t), v3, v4] ∧ Same H HA ∧ HA t = some (.tup [.int (p : Nat), .int (a : Nat), .int (b : Nat)]) ∧ at' ≤ a ∧ a < n ∧ at' ≤ b ∧ b < w ∧ p ≤ d ∧ (p < d → Twos (G a b) d p) ∧ ∀ i' j, at' ≤ i' → i' < at' + i → at' ≤ j → j < w → (2 ^ p : Int) ∣ G i' j) ⟨t0, d, at', at', none, none, rfl, s1, ht0, Nat.le_refl _, an, Nat.le_refl _, aw, Nat.le_refl _, (fun h => absurd h (Nat.lt_irrefl _)), fun i' j h1 h2 => absurd h2 (by omega)⟩ ?_ ?_
  · rintro i σ HA hi ⟨t, p, a, b, v3, v4, rfl, sA, ht, a1, a2, b1, b2, pd, tw, dv⟩
    rw [show (((at' : Nat) : Int) + ((i : Nat) : Int)) = ((at' + i : Nat) : Int) from rfl]
    have hin : at' + i < n := by omega
    generalize em : at' + i = m at *
    obtain ⟨r, hr, hrow⟩ := Gok hin
    refine ⟨_, rfl, _, rfl, x, T.C_Shape, dx, _, _, rfl, sA _ _ hx, T.cl_Shape, T.na_Shape_wide, rfl, _, _, rfl, ⟨by omega, by omega, by omega, by omega⟩, ?_⟩
    rw [show (((w : Nat) : Int) - ((at' : Nat) : Int)).toNat = w - at' by omega]
    refine for_range (lo := ((at' : Nat) : Int)) (n := w - at') (fun k σ HB => ∃ (t : Addr) (p a b : Nat) (v4 : Option V), σ = [some (.ref x), some (.int at'), some (.ref t), some (.int (m : Nat)), v4] ∧ Same H HB ∧ HB t = some (.tup [.int (p : Nat), .int (a : Nat), .int (b : Nat)]) ∧ at' ≤ a ∧ a < n ∧ at' ≤ b ∧ b < w ∧ p ≤ d ∧ (p < d → Twos (G a b) d p) ∧ (∀ i' j, at' ≤ i' → i' < m → at' ≤ j → j < w → (2 ^ p : Int) ∣ G i' j) ∧ ∀ j, at' ≤ j → j < at' + k → (2 ^ p : Int) ∣ G m j) ⟨t, p, a, b, v4, rfl, sA, ht, a1, a2, b1, b2, pd, tw, dv, fun j h1 h2 => absurd h2 (by omega)⟩ ?_ ?_
    · rintro k σ HB hk ⟨t, p, a, b, v4, rfl, sB, ht, a1, a2, b1, b2, pd, tw, dv, dm⟩
      rw [show (((at' : Nat) : Int) + ((k : Nat) : Int)) = ((at' + k : Nat) : Int) from rfl]
      have hkw : at' + k < w := by omega
      generalize eo : at' + k = o at *
      refine ⟨_, rfl, t, _, _, _, rfl, rfl, .inl (.inl ht), atI_nat (j := 0) rfl, _, _, rfl, rfl, _, rfl, ?_⟩
      by_cases c : 0 < p
      · refine iteDT (by omega) ?_
        refine ⟨_, rfl, _, rfl, x, T.C_Shape, dx, _, _, rfl, sB _ _ hx, T.cl_Shape, T.na_Shape_grid, rfl, _, rfl, pg, _, _, _, rfl, rfl, .inl (.inl (sB _ _ hpg)), atI_nat (by rw [List.getElem?_map, hr]; rfl), _, rfl, r, _, _, _, rfl, rfl, .inl (.inl (sB _ _ hrow)), atI_nat (rowZ_get _ hkw), _, rfl, x, T.C_Shape, dx, _, _, rfl, sB _ _ hx, T.cl_Shape, T.na_Shape_depth, rfl, _, d, rfl, hG _ _ hin hkw, fun t2 htw => ?_⟩
        refine ⟨_, rfl, _, rfl, (by show 3 ≤ sizeLine; decide), fun T nT => ?_⟩
        obtain ⟨HC, eC, sC, hT⟩ := fresh (.tup [V.int (t2 : Nat), .int (m : Nat), .int (o : Nat)]) nT
        rw [eC]
        refine ⟨_, _, tripD p a b, tripD t2 m o, rfl, .tup (.inl (.inl (sC _ _ ht))) (.cons (.int _) (.cons (.int _) (.cons (.int _) .nil))), .tup (.inl (.inl hT)) (.cons (.int _) (.cons (.int _) (.cons (.int _) .nil))), trip_alike _ _ _ _ _ _, trip_depth _ _ _ _ _ _, ?_⟩
        have tf := trip_fst t2 m o p a b
        cases hlt : PySem.W.dataLt (tripD t2 m o) (tripD p a b) with
        | true =>
          have le : t2 ≤ p := by have := tf.1 hlt; omega
          rw [if_pos rfl]
          exact ⟨T, t2, m, o, _, rfl, sB.trans sC, hT, by omega, hin, by omega, hkw, htw.1, fun _ => htw, fun i' j h1 h2 h3 h4 => dvd_pow_le le (dv i' j h1 h2 h3 h4), fun j h1 h2 => by
            by_cases e : j = o
            · rw [e]; exact htw.2.1
            · exact dvd_pow_le le (dm j h1 (by omega))⟩
        | false =>
          have le : p ≤ t2 := by have := tf.2 hlt; omega
          rw [if_neg (by decide)]
          exact ⟨t, p, a, b, _, rfl, sB.trans sC, sC _ _ ht, a1, a2, b1, b2, pd, tw, dv, fun j h1 h2 => by
            by_cases e : j = o
            · rw [e]; exact dvd_pow_le le htw.2.1
            · exact dm j h1 (by omega)⟩
      · refine iteDF (by omega) ?_
        obtain rfl : p = 0 := by omega
        exact ⟨t, 0, a, b, _, rfl, sB, ht, a1, a2, b1, b2, pd, tw, dv, fun j h1 h2 => by
          rw [Int.pow_zero]
          exact Int.one_dvd _⟩
    · rintro σ HB ⟨t, p, a, b, v4, rfl, sB, ht, a1, a2, b1, b2, pd, tw, dv, dm⟩
      exact ⟨t, p, a, b, _, _, rfl, sB, ht, a1, a2, b1, b2, pd, tw, fun i' j h1 h2 h3 h4 => by
        by_cases e : i' = m
        · rw [e]; exact dm j h3 (by omega)
        · exact dv i' j h1 (by omega) h3 h4⟩
  · rintro σ HA ⟨t, p, a, b, v3, v4, rfl, sA, ht, a1, a2, b1, b2, pd, tw, dv⟩
    exact ⟨_, rfl, q HA t p a b sA ht a1 a2 b1 b2 pd tw fun i' j h1 h2 h3 h4 => dv i' j h1 (by omega) h3 h4⟩
def sp_Shape_take_row (C : Addr) : Sp := fun vs H Q _ => ∃ (H0 : Hp) (x dx : Addr) (d n w lo at' : Nat) (f : Int) (pg pl pr pp : Addr) (ag al ar : List Addr) (G L R : Nat → Nat → Int) (pw : List Nat), vs = [.ref x, .int lo, .int at', .int f] ∧ Same H0 H ∧ ShpX C H0 H x dx d n w pg pl pr pp ag al ar G L R pw ∧ lo < n ∧ at' < n ∧ n ≤ 100 ∧ w ≤ 100 ∧ f.natAbs < 2 ^ 60 ∧
  ∀ H' ag' al', Same H0 H' → ShpX C H0 H' x dx d n w pg pl pr pp ag' al' ar (rowT d lo at' f G) (rowT d lo at' f L) R pw → Q .non H'
theorem G_Shape_take_row (T : Top K mg) : FnOk P w K mg base CX0 2 T.f_Shape_take_row T.fd_Shape_take_row ["self", "lower", "at", "factor"] (sp_Shape_take_row T.C_Shape) := by
  refine T.F_Shape_take_row.ok sc_Shape_take_row (fun vs H Q E h => by obtain ⟨H0, x, dx, d, n, w, lo, at', f, pg, pl, pr, pp, ag, al, ar, G, L, R, pw, rfl, _⟩ := h; rfl) (fun cdv A outer s H vs Q E hr h => ?_)
  obtain ⟨H0, x, dx, d, n, w, lo, at', f, pg, pl, pr, pp, ag, al, ar, G, L, R, pw, rfl, s0, hX, ln, an, hn, hw, hf, q⟩ := h
  refine ⟨_, PSs.nox (pss_one (ps_for PassesOwn.never rfl (k_piL K rfl (pe_lst (pa_cons (pe_fld (pv 0) rfl) (pa_cons (pe_fld (pv 0) rfl) pa_nil)))) (pg_name (i := 4) sc_Shape_take_row.nd rfl (by first | exact Or.inl rfl | exact Or.inr rfl))
    (pss_one (ps_asg (pe_meth (pv 0) T.cl_Shape T.me_Shape_lessened (G_Shape_lessened (P := P) T) (hr.mono (by decide)) T.b_Shape_lessened .nil pass0 (pa_cons (pe_lc (own := [("k", 5), ("number", 6)]) (g := gTup K 2 (gCons (gName 5) (gCons (gName 6) (gNil)))) (tt := tYes) (by rfl) sc_Shape_take_row.nd (k_piE K rfl (by rfl) T.n_enumerate (pa_cons (pe_ix (k_ixL K rfl) (pv 4) (pv 1) (fun _ _ => rfl)) pa_nil)) (blkOk_by (own := [("k", 5), ("number", 6)]) (N := N_Shape_take_row) (sc := defScope s_Shape_take_row) (by decide +kernel)) (fun _ _ _ _ _ => (k_pgT K rfl (by rfl) (pgs_cons (pg_name (i := 5) sc_Shape_take_row.nd rfl (by first | exact Or.inl rfl | exact Or.inr rfl)) (pgs_cons (pg_name (i := 6) sc_Shape_take_row.nd rfl (by first | exact Or.inl rfl | exact Or.inr rfl)) pgs_nil)))) (fun _ _ _ _ _ => pts_nil) (fun _ _ _ _ _ => (pe_op op_sub (pv 6) (pe_op op_mul (pv 3) (pe_ix (k_ixL K rfl) (pe_ix (k_ixL K rfl) (pv 4) (pv 2) (fun _ _ => rfl)) (pv 5) (fun _ _ => rfl)))))) pa_nil)) (pg_sub (pv 4) (pv 1) set_list))))), ?_⟩
  refine ⟨_, rfl, x, T.C_Shape, dx, _, _, rfl, hX.hx, T.cl_Shape, T.na_Shape_grid, rfl, _, rfl, x, T.C_Shape, dx, _, _, rfl, hX.hx, T.cl_Shape, T.na_Shape_left, rfl, (by show 2 ≤ sizeLine; decide), fun ls nls => ?_⟩
  obtain ⟨H1, e1, s1, hls⟩ := fresh (.lst [V.ref pg, .ref pl]) nls
  rw [e1]
  refine ⟨ls, rfl, ⟨_, .inl (.inl hls)⟩, ?_⟩
  refine for_list (K := K) (a := ls) (xs := [V.ref pg, .ref pl]) (fun i σ HA => ∃ (ag' al' : List Addr) (v4 : Option V), σ = [some (.ref x), some (.int lo), some (.int at'), some (.int f), v4, none, none] ∧ Same H0 HA ∧ HA ls = some (.lst [V.ref pg, .ref pl]) ∧ ShpX T.C_Shape H0 HA x dx d n w pg pl pr pp ag' al' ar (if 0 < i then rowT d lo at' f G else G) (if 1 < i then rowT d lo at' f L else L) R pw) ⟨ag, al, none, rfl, s0.trans s1, hls, hX.same s1⟩ (fun i σ HA _ ⟨_, _, _, _, _, h, _⟩ => .inl (.inl h)) ?_ ?_
  · rintro i y σ HA hy ⟨ag', al', v4, rfl, sA, hlsA, hXA⟩
    have lsx : ls ≠ pg ∧ ls ≠ pl := ⟨fun z => (by rw [z, hX.hg] at nls; cases nls), fun z => (by rw [z, hX.hl] at nls; cases nls)⟩
    obtain ⟨p, as, wd, M, rfl, hp, hR, hlen, hwd, close⟩ : ∃ (p : Addr) (as : List Addr) (wd : Nat) (M : Nat → Nat → Int), y = .ref p ∧ HA p = some (.lst (as.map V.ref)) ∧ Rw H0 p HA as wd M ∧ as.length = n ∧ wd ≤ 100 ∧ ∀ HB q0 (v4 : Option V), (∀ c o, c ≠ p → HA c = some o → HB c = some o) → HB p = some (.lst ((as.set lo q0).map V.ref)) → HA q0 = none → HB q0 = some (.lst (rowZ wd (rowT d lo at' f M lo))) →
        ∃ (ag' al' : List Addr) (v4' : Option V), [some (V.ref x), some (.int lo), some (.int at'), some (.int f), v4, none, none] = [some (V.ref x), some (.int lo), some (.int at'), some (.int f), v4', none, none] ∧ Same H0 HB ∧ HB ls = some (.lst [V.ref pg, .ref pl]) ∧ ShpX T.C_Shape H0 HB x dx d n w pg pl pr pp ag' al' ar (if 0 < i + 1 then rowT d lo at' f G else G) (if 1 < i + 1 then rowT d lo at' f L else L) R pw := by
      have re : ∀ (M : Nat → Nat → Int) (i j : Nat), i ≠ lo → M i j = rowT d lo at' f M i j := fun M i j h => by unfold rowT; rw [if_neg h]
      have outer : ∀ {HB p}, H0 p = none → (∀ c o, c ≠ p → HA c = some o → HB c = some o) → Same H0 HB := fun np s c o h => s c o (fun z => by rw [z, np] at h; cases h) (sA _ _ h)
      match i, hy with
      | 0, hy =>
        cases hy
        refine ⟨pg, ag', w, G, rfl, hXA.hg, hXA.rg, hXA.lg, hw, fun HB q0 v4 s hB nq hq => ⟨ag'.set lo q0, al', v4, rfl, outer (hX.nn pg (by simp)) s, s _ _ lsx.1 hlsA, ?_⟩⟩
        exact hXA.setG sA s hB nq hq fun i j h _ => re G i j h
      | 1, hy =>
        cases hy
        refine ⟨pl, al', n, L, rfl, hXA.hl, hXA.rl, hXA.ll, hn, fun HB q0 v4 s hB nq hq => ⟨ag', al'.set lo q0, v4, rfl, outer (hX.nn pl (by simp)) s, s _ _ lsx.2 hlsA, ?_⟩⟩
        exact hXA.setL sA s hB nq hq fun i j h _ => re L i j h
      | i + 2, hy => simp at hy
    have hr1 : as[lo]? = some (as[lo]'(by omega)) := List.getElem?_eq_getElem (by omega)
    have hr2 : as[at']? = some (as[at']'(by omega)) := List.getElem?_eq_getElem (by omega)
    obtain ⟨n1, np1, hrow1⟩ := hR.2 lo _ hr1
    obtain ⟨n2, np2, hrow2⟩ := hR.2 at' _ hr2
    generalize as[lo]'(by omega) = r1 at *
    generalize as[at']'(by omega) = r2 at *
    refine ⟨_, rfl, x, dx, _, rfl, hXA.hx, rfl, ?_⟩
    refine ⟨_, rfl, _, rfl, p, _, _, _, rfl, rfl, .inl (.inl hp), atI_nat (by rw [List.getElem?_map, hr1]; rfl), r1, _, rfl, .inl (.inl hrow1), fun D nD => ?_⟩
    refine lc_it (walk_enum (K := K) (a := r1) (xs := rowZ wd (M lo))) (fun i H2 => Same HA H2 ∧ H2 D = some (.lst (rowZ i fun j => M lo j - f * M at' j))) ⟨same_upd nD, upd_same⟩ (fun i H2 _ p => .inl (.inl (p.1 _ _ hrow1))) ?_ ?_
    · rintro k z H2 H3 hk ⟨s2, hD⟩ ⟨T1, x1, y1, rfl, nT, rfl, ex, ey⟩
      dsimp only at ex ey
      cases ex
      have hk' : k < wd := by rw [rowZ_len] at hk; exact hk
      rw [rowZ_get _ hk'] at ey
      cases ey
      have sT := same_upd (o := .tup [V.int (k : Int), V.int (M lo k)]) nT
      have hD3 := sT _ _ hD
      have s3 := s2.trans sT
      refine ⟨T1, _, rfl, .inl (.inl upd_same), rfl, _, _, rfl, _, _, rfl, rfl, ?_⟩
      refine ⟨rfl, ?_⟩
      unfold tYes
      refine iteT ?_
      refine ⟨_, rfl, _, rfl, _, rfl, _, rfl, p, _, _, _, rfl, rfl, .inl (.inl (s3 _ _ hp)), atI_nat (by rw [List.getElem?_map, hr2]; rfl), _, rfl, r2, _, _, _, rfl, rfl, .inl (.inl (s3 _ _ hrow2)), atI_nat (rowZ_get _ hk'), _, _, rfl, rfl, .inl ⟨by omega, by omega⟩, _, _, rfl, rfl, ?_⟩
      refine ⟨_, hD3, by rw [rowZ_len]; exact small4 (by omega), same_over nD s3, ?_⟩
      rw [upd_same]
      exact congrArg (fun l => some (HO.lst l)) (rowZ_snoc k fun j => M lo j - f * M at' j)
    · rintro H2 ⟨s2, hD⟩
      rw [rowZ_len, rowZ_ints] at hD
      refine ⟨x, D, dx, _, d, _, rfl, s2 _ _ hXA.hx, hD, by rw [List.length_map, List.length_range]; omega, fun H3 q0 s3 nq hq => ?_⟩
      have s23 := s2.trans s3
      refine ⟨_, rfl, _, rfl, p, _, _, lo, rfl, rfl, s23 _ _ hp, ?_, ?_⟩
      · unfold ixN
        rw [if_pos (by omega), if_pos (by rw [List.length_map]; omega)]
        rfl
      have qp : q0 ≠ p := fun z => by rw [z, s2 _ _ hp] at nq; cases nq
      refine close _ q0 _ (fun c o hc ho => by rw [upd_ne hc]; exact s23 _ _ ho) ?_ (s2.free nq) ?_
      · rw [upd_same, List.map_set]
      · rw [upd_ne qp, hq, List.length_map, List.length_range]
        refine congrArg (fun l => some (HO.lst l)) (rowZ_congr fun j hj => ?_)
        unfold rowT
        rw [if_pos rfl, List.getD_eq_getElem?_getD, List.getElem?_map, List.getElem?_range hj]
        rfl
  · rintro σ HA ⟨ag', al', v4, rfl, sA, hlsA, hXA⟩
    exact q HA ag' al' sA hXA
def sp_Shape_take_column (C : Addr) : Sp := fun vs H Q _ => ∃ (H0 : Hp) (x dx : Addr) (d n w b a : Nat) (f : Int) (pg pl pr pp : Addr) (ag al ar : List Addr) (G L R : Nat → Nat → Int) (pw : List Nat), vs = [.ref x, .int b, .int a, .int f] ∧ Same H0 H ∧ ShpX C H0 H x dx d n w pg pl pr pp ag al ar G L R pw ∧ b < w ∧ a < w ∧ a ≠ b ∧ n ≤ 100 ∧ w ≤ 100 ∧ f.natAbs < 2 ^ 60 ∧
  ∀ H', Same H0 H' → ShpX C H0 H' x dx d n w pg pl pr pp ag al ar (colT d b a f G) L (colT d b a f R) pw → Q .non H'
theorem G_Shape_take_column (T : Top K mg) : FnOk P w K mg base CX0 2 T.f_Shape_take_column T.fd_Shape_take_column ["self", "later", "at", "factor"] (sp_Shape_take_column T.C_Shape) := by
  refine T.F_Shape_take_column.ok sc_Shape_take_column (fun vs H Q E h => by obtain ⟨H0, x, dx, d, n, w, b, a, f, pg, pl, pr, pp, ag, al, ar, G, L, R, pw, rfl, _⟩ := h; rfl) (fun cdv A outer s H vs Q E hr h => ?_)
  obtain ⟨H0, x, dx, d, n, w, b, a, f, pg, pl, pr, pp, ag, al, ar, G, L, R, pw, rfl, s0, hX, bw, aw, ab, hn, hw, hf, q⟩ := h
  refine ⟨_, PSs.nox (pss_one (ps_for PassesOwn.never rfl (k_piL K rfl (pe_lst (pa_cons (pe_fld (pv 0) rfl) (pa_cons (pe_fld (pv 0) rfl) pa_nil)))) (pg_name (i := 4) sc_Shape_take_column.nd rfl (by first | exact Or.inl rfl | exact Or.inr rfl))
    (pss_cons (ps_expr (pe_call (G_take_columns (P := P) T) (hr.mono (by decide)) (by rfl) T.g_take_columns T.F_take_columns.kp T.b_take_columns .nil pass0 (pa_cons (pv 4) (pa_cons (pv 1) (pa_cons (pv 2) (pa_cons (pv 3) pa_nil))))))
  (pss_one (ps_for PassesOwn.never rfl (k_piL K rfl (pv 4)) (pg_name (i := 5) sc_Shape_take_column.nd rfl (by first | exact Or.inl rfl | exact Or.inr rfl))
    (pss_one (ps_asg (pe_op op_mod (pe_ix (k_ixL K rfl) (pv 5) (pv 1) (fun _ _ => rfl)) (pe_fld (pv 0) rfl)) (pg_sub (pv 5) (pv 1) set_list)))))))), ?_⟩
  have hN : (0 : Int) < 2 ^ d := Int.pow_pos (by decide)
  refine ⟨_, rfl, x, T.C_Shape, dx, _, _, rfl, hX.hx, T.cl_Shape, T.na_Shape_grid, rfl, _, rfl, x, T.C_Shape, dx, _, _, rfl, hX.hx, T.cl_Shape, T.na_Shape_right, rfl, (by show 2 ≤ sizeLine; decide), fun ls nls => ?_⟩
  obtain ⟨H1, e1, s1, hls⟩ := fresh (.lst [V.ref pg, .ref pr]) nls
  rw [e1]
  refine ⟨ls, rfl, ⟨_, .inl (.inl hls)⟩, ?_⟩
  refine for_list (K := K) (a := ls) (xs := [V.ref pg, .ref pr]) (fun i σ HA => ∃ (v4 v5 : Option V), σ = [some (.ref x), some (.int b), some (.int a), some (.int f), v4, v5] ∧ Same H0 HA ∧ HA ls = some (.lst [V.ref pg, .ref pr]) ∧ ShpX T.C_Shape H0 HA x dx d n w pg pl pr pp ag al ar (if 0 < i then colT d b a f G else G) L (if 1 < i then colT d b a f R else R) pw) ⟨none, none, rfl, s0.trans s1, hls, hX.same s1⟩ (fun i σ HA _ ⟨_, _, _, _, h, _⟩ => .inl (.inl h)) ?_ ?_
  · rintro i y σ HA hy ⟨v4, v5, rfl, sA, hlsA, hXA⟩
    have lsn : ∀ {as : List Addr}, (∀ c ∈ as, c ∈ ag ∨ c ∈ ar) → ls ∉ as := fun hs hm => by
      have := (hX.held (by rcases hs _ hm with k | k; exact .inr (.inl k); exact .inr (.inr (.inr k)))).2
      exact this nls
    obtain ⟨p, as, M, rfl, hp, hR, hlen, hxas, hpas, close⟩ : ∃ (p : Addr) (as : List Addr) (M : Nat → Nat → Int), y = .ref p ∧ HA p = some (.lst (as.map V.ref)) ∧ Rw H0 p HA as w M ∧ as.length ≤ 100 ∧ x ∉ as ∧ p ∉ as ∧ ∀ HB (v4 v5 : Option V), (∀ c o, c ∉ as → HA c = some o → HB c = some o) → Rw H0 p HB as w (colT d b a f M) →
        ∃ (v4' v5' : Option V), [some (V.ref x), some (.int b), some (.int a), some (.int f), v4, v5] = [some (V.ref x), some (.int b), some (.int a), some (.int f), v4', v5'] ∧ Same H0 HB ∧ HB ls = some (.lst [V.ref pg, .ref pr]) ∧ ShpX T.C_Shape H0 HB x dx d n w pg pl pr pp ag al ar (if 0 < i + 1 then colT d b a f G else G) L (if 1 < i + 1 then colT d b a f R else R) pw := by
      have outer : ∀ {HB p} {as : List Addr} {M : Nat → Nat → Int}, Rw H0 p HA as w M → (∀ c o, c ∉ as → HA c = some o → HB c = some o) → Same H0 HB := fun hR s c o h => s c o (fun z => by rw [(hR.mem z).1] at h; cases h) (sA _ _ h)
      match i, hy with
      | 0, hy =>
        cases hy
        refine ⟨pg, ag, G, rfl, hXA.hg, hXA.rg, by rw [hXA.lg]; exact hn, fun hm => hX.d2 _ (.inl hm) (by simp), fun hm => hX.d2 _ (.inl hm) (by simp), fun HB v4 v5 s hB => ⟨v4, v5, rfl, outer hXA.rg s, s _ _ (lsn fun c hc => .inl hc) hlsA, ?_⟩⟩
        exact hXA.inG s hB
      | 1, hy =>
        cases hy
        refine ⟨pr, ar, R, rfl, hXA.hr, hXA.rr, by rw [hXA.lr]; exact hw, fun hm => hX.d2 _ (.inr (.inr hm)) (by simp), fun hm => hX.d2 _ (.inr (.inr hm)) (by simp), fun HB v4 v5 s hB => ⟨v4, v5, rfl, outer hXA.rr s, s _ _ (lsn fun c hc => .inr hc) hlsA, ?_⟩⟩
        exact hXA.inR s hB
      | i + 2, hy => simp at hy
    have xas : ∀ {c}, c ∈ as → H0 c = none := fun hc => (hR.mem hc).1
    refine ⟨_, rfl, _, rfl, _, rfl, _, rfl, p, as, H0, w, a, b, f, M, rfl, hp, hR, aw, bw, ab, hf, hw, hlen, fun HB sB hB => ?_⟩
    have hpB := sB _ _ hpas hp
    refine ⟨_, rfl, p, rfl, ⟨_, .inl (.inl hpB)⟩, ?_⟩
    refine for_list (K := K) (a := p) (xs := as.map V.ref) (fun k σ HC => ∃ v5 : Option V, σ = [some (.ref x), some (.int b), some (.int a), some (.int f), some (.ref p), v5] ∧ (∀ c o, c ∉ as → HB c = some o → HC c = some o) ∧ ∀ j r, as[j]? = some r → HC r = some (.lst (rowZ w (if j < k then colT d b a f M j else tkC M b a f j)))) ⟨v5, rfl, fun c o _ h => h, fun j r hr => (hB.2 j r hr).2.2⟩ (fun k σ HC _ ⟨_, _, h, _⟩ => .inl (.inl (h _ _ hpas hpB))) ?_ ?_
    · rintro k z σ HC hz ⟨v5, rfl, hout, hin⟩
      rw [List.getElem?_map] at hz
      obtain ⟨r, hr, rfl⟩ : ∃ r, as[k]? = some r ∧ z = .ref r := by
        cases e : as[k]? with
        | none => rw [e] at hz; cases hz
        | some r => rw [e] at hz; exact ⟨r, rfl, (Option.some.inj hz).symm⟩
      have hrow := hin k r hr
      rw [if_neg (Nat.lt_irrefl k)] at hrow
      refine ⟨_, rfl, _, rfl, r, _, _, _, rfl, rfl, .inl (.inl hrow), atI_nat (rowZ_get _ bw), _, rfl, x, T.C_Shape, dx, _, _, rfl, hout _ _ hxas (sB _ _ hxas hXA.hx), T.cl_Shape, T.na_Shape_size, rfl, _, _, rfl, rfl, hN, ?_⟩
      refine ⟨_, rfl, _, rfl, r, _, _, b, rfl, rfl, hrow, ?_, ?_⟩
      · unfold ixN
        rw [if_pos (by omega), if_pos (by rw [rowZ_len]; omega)]
        rfl
      have hmr : r ∈ as := List.mem_iff_getElem?.mpr ⟨k, hr⟩
      refine ⟨_, rfl, fun q o hq ho => ?_, in_next hR.1 hr hin (fun q o hq ho => by rw [upd_ne hq]; exact ho) ?_⟩
      · rw [upd_ne fun e => hq (by rw [e]; exact hmr)]
        exact hout q o hq ho
      · rw [upd_same, rowZ_set (g := colT d b a f M k) bw (by unfold colT tkC; rw [if_pos rfl, if_pos rfl]) fun j hj => by unfold colT tkC; rw [if_neg hj, if_neg hj]; omega]
    · rintro σ HC ⟨v5, rfl, hout, hin⟩
      rw [List.length_map] at hin
      refine close HC _ _ (fun c o hc ho => hout c o hc (sB c o hc ho)) ⟨hR.1, fun j r hr => ⟨(hR.2 j r hr).1, (hR.2 j r hr).2.1, ?_⟩⟩
      rw [hin j r hr, if_pos (List.getElem?_eq_some_iff.mp hr).1]
  · rintro σ HA ⟨v4, v5, rfl, sA, hlsA, hXA⟩
    exact q HA sA hXA
end
end My

namespace My
/-! ### one spot of the diagonal cleared: the mathematics -/
/-- entries below a number -/
def Red (N : Int) (n w : Nat) (G : Nat → Nat → Int) : Prop := ∀ i j, i < n → j < w → 0 ≤ G i j ∧ G i j < N
/-- rows and columns ahead hold nothing but powers of two on the diagonal -/
def Clr (n w : Nat) (G : Nat → Nat → Int) (pw : List Nat) : Prop := ∀ i j, i < n → j < w → i < pw.length ∨ j < pw.length → G i j = if i = j then 2 ^ pw.getD i 0 else 0
theorem mod_in {N x : Int} (hN : 0 < N) : 0 ≤ x % N ∧ x % N < N := ⟨Int.emod_nonneg _ (by omega), Int.emod_lt_of_pos _ hN⟩
theorem mod_sub {N x : Int} : N ∣ x - x % N := by
  have := Int.mul_ediv_add_emod x N
  exact ⟨x / N, by omega⟩
theorem sub_mod {N x : Int} : N ∣ x % N - x := by
  have := Int.mul_ediv_add_emod x N
  exact ⟨-(x / N), by rw [Int.mul_neg]; omega⟩
section
variable {N : Int} {n w : Nat} {M G L R : Nat → Nat → Int}
/-- rows exchanged -/
theorem SInv.swR (h : SInv N n w M G L R) {a b : Nat} (ha : a < n) (hb : b < n) : SInv N n w M (fun i j => G (swp a b i) j) (fun i j => L (swp a b i) j) R :=
  h.row (Inver.sw ha hb) (EqM.of fun i j hi _ => mul_swE ha hb G hi j) (EqM.of fun i j hi _ => mul_swE ha hb L hi j)
/-- columns exchanged -/
theorem SInv.swC (h : SInv N n w M G L R) {a b : Nat} (ha : a < w) (hb : b < w) : SInv N n w M (exC G a b) L (exC R a b) :=
  h.col (Inver.sw ha hb) (EqM.of fun i j _ hj => swE_mul ha hb G i hj) (EqM.of fun i j _ hj => swE_mul ha hb R i hj)
/-- a row by an odd factor -/
def scR (N : Int) (p : Nat) (c : Int) (M : Nat → Nat → Int) : Nat → Nat → Int := fun i j => if i = p then (c * M p j) % N else M i j
theorem sc_eq {m : Nat} (p : Nat) (c : Int) (A : Nat → Nat → Int) : EqM N n m (mulM n (scE p c) A) (scR N p c A) := fun i j hi _ => by
  rw [mul_scE c A hi]
  unfold scR
  by_cases e : i = p
  · subst e
    rw [if_pos rfl, if_pos rfl]
    exact mod_sub
  · rw [if_neg e, if_neg e, Int.one_mul, Int.sub_self]
    exact Int.dvd_zero _
theorem SInv.scRow (h : SInv N n w M G L R) {p : Nat} {c c' : Int} (hc : N ∣ c * c' - 1) : SInv N n w M (scR N p c G) (scR N p c L) R := h.row (Inver.sc hc) (sc_eq p c G) (sc_eq p c L)
theorem tr_eq {m : Nat} (lo at' : Nat) (f : Int) (ha : at' < n) (d : Nat) (A : Nat → Nat → Int) : EqM (2 ^ d) n m (mulM n (trE lo at' f) A) (rowT d lo at' f A) := fun i j hi _ => by
  rw [mul_trE f ha A hi]
  unfold rowT
  by_cases e : i = lo
  · subst e
    rw [if_pos rfl, if_pos rfl]
    exact mod_sub
  · rw [if_neg e, if_neg e, Int.zero_mul, Int.sub_zero, Int.sub_self]
    exact Int.dvd_zero _
theorem SInv.trRow {d : Nat} (h : SInv (2 ^ d) n w M G L R) {lo at' : Nat} (f : Int) (ha : at' < n) (ne : lo ≠ at') : SInv (2 ^ d) n w M (rowT d lo at' f G) (rowT d lo at' f L) R := h.row (Inver.tr f ha ne) (tr_eq lo at' f ha d G) (tr_eq lo at' f ha d L)
theorem tc_eq {m : Nat} (b a : Nat) (f : Int) (ha : a < w) (d : Nat) (A : Nat → Nat → Int) : EqM (2 ^ d) m w (mulM w A (trE a b f)) (colT d b a f A) := fun i j _ hj => by
  rw [trE_mul f ha A i hj]
  unfold colT
  by_cases e : j = b
  · subst e
    rw [if_pos rfl, if_pos rfl]
    exact mod_sub
  · rw [if_neg e, if_neg e, Int.zero_mul, Int.sub_zero, Int.sub_self]
    exact Int.dvd_zero _
theorem SInv.trCol {d : Nat} (h : SInv (2 ^ d) n w M G L R) {b a : Nat} (f : Int) (ha : a < w) (hb : b < w) (ne : a ≠ b) : SInv (2 ^ d) n w M (colT d b a f G) L (colT d b a f R) := h.col (Inver.tr f hb ne) (tc_eq b a f ha d G) (tc_eq b a f ha d R)
/-- entries stay below -/
theorem Red.swR (h : Red N n w G) {a b : Nat} (ha : a < n) (hb : b < n) : Red N n w fun i j => G (swp a b i) j := fun i j hi hj => h _ j (swp_lt ha hb hi) hj
theorem Red.swC (h : Red N n w G) {a b : Nat} (ha : a < w) (hb : b < w) : Red N n w (exC G a b) := fun i j hi hj => h i _ hi (swp_lt ha hb hj)
theorem Red.sc (hN : 0 < N) (h : Red N n w G) (p : Nat) (c : Int) : Red N n w (scR N p c G) := fun i j hi hj => by
  unfold scR
  split
  · exact mod_in hN
  · exact h i j hi hj
theorem Red.tr {d : Nat} (h : Red (2 ^ d) n w G) (lo at' : Nat) (f : Int) : Red (2 ^ d) n w (rowT d lo at' f G) := fun i j hi hj => by
  unfold rowT
  split
  · exact mod_in (Int.pow_pos (by decide))
  · exact h i j hi hj
theorem Red.tc {d : Nat} (h : Red (2 ^ d) n w G) (b a : Nat) (f : Int) : Red (2 ^ d) n w (colT d b a f G) := fun i j hi hj => by
  unfold colT
  split
  · exact mod_in (Int.pow_pos (by decide))
  · exact h i j hi hj
/-- all entries from a spot on by a number -/
def Dv (k : Int) (n w at' : Nat) (G : Nat → Nat → Int) : Prop := ∀ i j, at' ≤ i → i < n → at' ≤ j → j < w → k ∣ G i j
theorem swp_ge {a b i k : Nat} (ha : k ≤ a) (hb : k ≤ b) (hi : k ≤ i) : k ≤ swp a b i := by
  unfold swp
  split
  · exact hb
  · split
    · exact ha
    · exact hi
theorem swp_id {a b i : Nat} (ha : i < a) (hb : i < b) : swp a b i = i := by
  unfold swp
  rw [if_neg (by omega), if_neg (by omega)]
theorem Clr.swR {pw : List Nat} (h : Clr n w G pw) {a b : Nat} (ha : a < n) (hb : b < n) (ka : pw.length ≤ a) (kb : pw.length ≤ b) : Clr n w (fun i j => G (swp a b i) j) pw := fun i j hi hj hij => by
  show G (swp a b i) j = _
  by_cases c : i < pw.length
  · rw [swp_id (by omega) (by omega)]
    exact h i j hi hj (.inl c)
  · have hj2 : j < pw.length := by omega
    have hs := swp_ge ka kb (show pw.length ≤ i by omega)
    rw [h _ j (swp_lt ha hb hi) hj (.inr hj2), if_neg (by omega), if_neg (by omega)]
theorem Clr.swC {pw : List Nat} (h : Clr n w G pw) {a b : Nat} (ha : a < w) (hb : b < w) (ka : pw.length ≤ a) (kb : pw.length ≤ b) : Clr n w (exC G a b) pw := fun i j hi hj hij => by
  show G i (swp a b j) = _
  by_cases c : j < pw.length
  · rw [swp_id (by omega) (by omega)]
    exact h i j hi hj (.inr c)
  · have hi2 : i < pw.length := by omega
    have hs := swp_ge ka kb (show pw.length ≤ j by omega)
    rw [h i _ hi (swp_lt ha hb hj) (.inl hi2), if_neg (by omega), if_neg (by omega)]
end
end My

namespace My
/-! ### one spot cleared, step by step -/
/-- the spot holds a power of two that all behind are multiples of -/
structure Clg (d n w p : Nat) (pw : List Nat) (G : Nat → Nat → Int) : Prop where
  red : Red (2 ^ d) n w G
  clr : Clr n w G pw
  dv : Dv (2 ^ p) n w pw.length G
  kn : pw.length < n
  kw : pw.length < w
  at_ : G pw.length pw.length = 2 ^ p
  pd : p < d
theorem two_dvd_mod {p d : Nat} (h : p ≤ d) {x : Int} (k : (2 ^ p : Int) ∣ x) : (2 ^ p : Int) ∣ x % 2 ^ d := by
  have := Int.dvd_add k (Int.dvd_trans (pow_dvd2 h) (sub_mod (N := 2 ^ d) (x := x)))
  rwa [show ∀ a b : Int, a + (b - a) = b from fun a b => by omega] at this
section
variable {d n w p : Nat} {pw : List Nat} {G : Nat → Nat → Int}
theorem clg_start (red : Red (2 ^ d) n w G) (clr : Clr n w G pw) (dv : Dv (2 ^ p) n w pw.length G) (kn : pw.length < n) (kw : pw.length < w) (pd : p < d) {c : Int} (hc : (2 ^ d : Int) ∣ G pw.length pw.length / 2 ^ p * c - 1) : Clg d n w p pw (scR (2 ^ d) pw.length c G) := by
  have hN : (0 : Int) < 2 ^ d := Int.pow_pos (by decide)
  have hp : (0 : Int) < 2 ^ p := Int.pow_pos (by decide)
  refine ⟨red.sc hN _ _, fun i j hi hj hij => ?_, fun i j h1 h2 h3 h4 => ?_, kn, kw, ?_, pd⟩
  · unfold scR
    by_cases e : i = pw.length
    · rw [if_pos e, clr pw.length j kn hj (.inr (by omega)), if_neg (by omega), Int.mul_zero, Int.zero_emod, if_neg (by omega)]
    · rw [if_neg e]
      exact clr i j hi hj hij
  · unfold scR
    by_cases e : i = pw.length
    · rw [if_pos e]
      exact two_dvd_mod (by omega) (Int.dvd_mul_of_dvd_right (dv _ _ (Nat.le_refl _) kn h3 h4))
    · rw [if_neg e]
      exact dv i j h1 h2 h3 h4
  · unfold scR
    rw [if_pos rfl]
    obtain ⟨u, hu⟩ := dv _ _ (Nat.le_refl _) kn (Nat.le_refl _) kw
    rw [hu, Int.mul_ediv_cancel_left _ (by omega)] at hc
    obtain ⟨t, ht⟩ := hc
    rw [hu, show c * (2 ^ p * u) = 2 ^ p + 2 ^ d * (2 ^ p * t) by
      rw [Int.mul_left_comm c, Int.mul_comm c u, show u * c = 2 ^ d * t + 1 by omega, Int.mul_add, Int.mul_one, Int.mul_left_comm]
      omega, Int.add_mul_emod_self_left]
    have lt : (2 : Int) ^ p < 2 ^ d := Int.pow_lt_pow_of_lt (by decide) pd
    exact Int.emod_eq_of_lt (by omega) lt
/-- a row below less -/
theorem Clg.row (h : Clg d n w p pw G) {m : Nat} (km : pw.length < m) (mn : m < n) : Clg d n w p pw (rowT d m pw.length (G m pw.length / 2 ^ p) G) ∧ rowT d m pw.length (G m pw.length / 2 ^ p) G m pw.length = 0 := by
  have hp : (0 : Int) < 2 ^ p := Int.pow_pos (by decide)
  have hk := h.kn
  have hk2 := h.kw
  have hpd := h.pd
  refine ⟨⟨h.red.tr _ _ _, fun i j hi hj hij => ?_, fun i j h1 h2 h3 h4 => ?_, h.kn, h.kw, ?_, h.pd⟩, ?_⟩
  · unfold rowT
    by_cases e : i = m
    · have jk : j < pw.length := by omega
      rw [if_pos e, h.clr m j mn hj (.inr jk), h.clr pw.length j hk hj (.inr jk), if_neg (by omega), if_neg (by omega), if_neg (by omega), Int.mul_zero, Int.sub_zero, Int.zero_emod]
    · rw [if_neg e]
      exact h.clr i j hi hj hij
  · unfold rowT
    by_cases e : i = m
    · rw [if_pos e]
      exact two_dvd_mod (by omega) (Int.dvd_sub (h.dv m j (by omega) mn h3 h4) (Int.dvd_mul_of_dvd_right (h.dv _ j (Nat.le_refl _) hk h3 h4)))
    · rw [if_neg e]
      exact h.dv i j h1 h2 h3 h4
  · unfold rowT
    rw [if_neg (by omega)]
    exact h.at_
  · unfold rowT
    rw [if_pos rfl, h.at_, Int.ediv_mul_cancel (h.dv m _ (by omega) mn (Nat.le_refl _) hk2), Int.sub_self, Int.zero_emod]
/-- a column behind less, all below being nothing -/
theorem Clg.col (h : Clg d n w p pw G) (hz : ∀ i, pw.length < i → i < n → G i pw.length = 0) {m : Nat} (km : pw.length < m) (mw : m < w) : Clg d n w p pw (colT d m pw.length (G pw.length m / 2 ^ p) G) ∧ colT d m pw.length (G pw.length m / 2 ^ p) G pw.length m = 0 := by
  have hk := h.kn
  have hk2 := h.kw
  have hpd := h.pd
  refine ⟨⟨h.red.tc _ _ _, fun i j hi hj hij => ?_, fun i j h1 h2 h3 h4 => ?_, h.kn, h.kw, ?_, h.pd⟩, ?_⟩
  · unfold colT
    by_cases e : j = m
    · have ik : i < pw.length := by omega
      rw [if_pos e, h.clr i m hi mw (.inl ik), h.clr i pw.length hi hk2 (.inl ik), if_neg (by omega), if_neg (by omega), if_neg (by omega), Int.mul_zero, Int.sub_zero, Int.zero_emod]
    · rw [if_neg e]
      exact h.clr i j hi hj hij
  · unfold colT
    by_cases e : j = m
    · rw [if_pos e]
      exact two_dvd_mod (by omega) (Int.dvd_sub (h.dv i m h1 h2 (by omega) mw) (Int.dvd_mul_of_dvd_right (h.dv i _ h1 h2 (Nat.le_refl _) hk2)))
    · rw [if_neg e]
      exact h.dv i j h1 h2 h3 h4
  · unfold colT
    rw [if_neg (by omega)]
    exact h.at_
  · unfold colT
    rw [if_pos rfl, h.at_, Int.ediv_mul_cancel (h.dv _ m (Nat.le_refl _) hk (by omega) mw), Int.sub_self, Int.zero_emod]
/-- all below and behind being nothing the spot is cleared -/
theorem Clg.done (h : Clg d n w p pw G) (hr : ∀ i, pw.length < i → i < n → G i pw.length = 0) (hc : ∀ j, pw.length < j → j < w → G pw.length j = 0) : Clr n w G (pw ++ [p]) := fun i j hi hj hij => by
  rw [List.length_append] at hij
  have hij' : i ≤ pw.length ∨ j ≤ pw.length := by
    have : ([p] : List Nat).length = 1 := rfl
    omega
  have g1 : ∀ i, i < pw.length → (pw ++ [p]).getD i 0 = pw.getD i 0 := fun i hi => by
    rw [List.getD_eq_getElem?_getD, List.getElem?_append_left hi, ← List.getD_eq_getElem?_getD]
  have g2 : (pw ++ [p]).getD pw.length 0 = p := by
    rw [List.getD_eq_getElem?_getD, List.getElem?_append_right (Nat.le_refl _), Nat.sub_self]
    rfl
  by_cases c : i < pw.length ∨ j < pw.length
  · rw [h.clr i j hi hj c]
    by_cases e : i = j
    · rw [if_pos e, if_pos e, g1 i (by omega)]
    · rw [if_neg e, if_neg e]
  · by_cases e : i = j
    · obtain rfl : i = pw.length := by omega
      rw [if_pos e, g2, ← e]
      exact h.at_
    · rw [if_neg e]
      by_cases e2 : i = pw.length
      · rw [e2]
        exact hc j (by omega) hj
      · obtain rfl : j = pw.length := by omega
        exact hr i (by omega) hi
end
/-- cleared as far as there is anything -/
theorem clr_diag {d n w : Nat} {G : Nat → Nat → Int} {pw : List Nat} (kn : pw.length ≤ n) (kw : pw.length ≤ w) (h : Clr n w G pw) (z : ∀ i j, pw.length ≤ i → i < n → pw.length ≤ j → j < w → (2 ^ d : Int) ∣ G i j) : Diag (2 ^ d) n w G pw := by
  refine ⟨kn, kw, fun i j hi hj => ?_⟩
  show (2 ^ d : Int) ∣ G i j - if i = j ∧ i < pw.length then 2 ^ pw.getD i 0 else 0
  by_cases c : i < pw.length ∨ j < pw.length
  · rw [h i j hi hj c]
    by_cases e : i = j
    · rw [if_pos e, if_pos ⟨e, by omega⟩, Int.sub_self]
      exact Int.dvd_zero _
    · rw [if_neg e, if_neg fun k => e k.1, Int.sub_self]
      exact Int.dvd_zero _
  · rw [if_neg fun k => c (.inl k.2), Int.sub_zero]
    exact z i j (by omega) hi (by omega) hj
end My

namespace My
open PySem PySem.Spec PyProof.Rows L2 Pre
/-! ### shapes: one spot cleared -/
theorem ifs_joinS {c : TT} {A B rest : TS} {D : L2.Ends} {σ : L2.St} {H : Hp} (Pv : L2.St → Hp → Prop) (h : ∀ nx : L2.St → Hp → Prop, (∀ σ' H', Pv σ' H' → nx σ' H') → tIfS c A B { nx := nx, rt := D.rt, bk := D.bk, ct := D.ct } σ H) (k : ∀ σ' H', Pv σ' H' → rest D σ' H') :
    tSeq (tIfS c A B) rest D σ H := h _ k
local macro_rules | `(tactic| walk_at "go") => `(tactic| repeat (first | (with_reducible first | refine iteT ?_ | refine iteF ?_ | refine iteNtt ?_ | refine iteNff ?_ | refine iteET (by omega) ?_ | refine iteEF (by omega) ?_ | refine iteENT (by omega) ?_ | refine iteENF (by omega) ?_ | refine iteDT (by omega) ?_ | refine iteDF (by omega) ?_ | refine iteNT (by omega) ?_ | refine iteNF (by omega) ?_) | refine ⟨_, rfl, ?_⟩ | refine ⟨_, _, rfl, rfl, ?_⟩ | refine ⟨_, _, rfl, ?_⟩ | refine ⟨rfl, ?_⟩ | refine .inl ⟨_, rfl, ?_⟩ | refine .inr ⟨_, rfl, ?_⟩))
local macro_rules | `(tactic| walk_at "b") => `(tactic| try dsimp (config := { proj := false, iota := false, eta := false, zeta := false }) only)
section
variable {P : Program} {w : World} {K : PySem.W.Frag} {mg : Str → Option Value} {base : Heap}
def sp_Shape_clear (K : PySem.W.Frag) (C : Addr) : Sp := fun vs H Q _ => ∃ (H0 : Hp) (x dx : Addr) (d n w : Nat) (pg pl pr pp : Addr) (ag al ar : List Addr) (M G L R : Nat → Nat → Int) (pw : List Nat), vs = [.ref x, .int (pw.length : Nat)] ∧ Same H0 H ∧ ShpX C H0 H x dx d n w pg pl pr pp ag al ar G L R pw ∧ SInv (2 ^ d) n w M G L R ∧ Red (2 ^ d) n w G ∧ Clr n w G pw ∧ pw.length < n ∧ pw.length < w ∧ n ≤ 100 ∧ w ≤ 100 ∧ 1 ≤ d ∧ d ≤ 24 ∧
  (∀ H', Same H H' → (∀ i j, pw.length ≤ i → i < n → pw.length ≤ j → j < w → (2 ^ d : Int) ∣ G i j) → Q .non H') ∧
  ∀ H' ag' al' G' L' R' p, Same H0 H' → ShpX C H0 H' x dx d n w pg pl pr pp ag' al' ar G' L' R' (pw ++ [p]) → SInv (2 ^ d) n w M G' L' R' → Red (2 ^ d) n w G' → Clr n w G' (pw ++ [p]) → p < d → Q .non H'
theorem G_Shape_clear (T : Top K mg) : FnOk P w K mg base CX0 3 T.f_Shape_clear T.fd_Shape_clear ["self", "at"] (sp_Shape_clear K T.C_Shape) := by
  refine T.F_Shape_clear.ok sc_Shape_clear (fun vs H Q E h => by obtain ⟨H0, x, dx, d, n, w, pg, pl, pr, pp, ag, al, ar, M, G, L, R, pw, rfl, _⟩ := h; rfl) (fun cdv A outer s H vs Q E hr h => ?_)
  obtain ⟨H0, x, dx, d, n, w, pg, pl, pr, pp, ag, al, ar, M, G, L, R, pw, rfl, s0, hX, hS, hRed, hClr, kn, kw, hn, hw, d1, d2, q1, q2⟩ := h
  refine ⟨_, PSs.nox (pss_cons (ps_asg (pe_meth (pv 0) T.cl_Shape T.me_Shape_best (G_Shape_best (P := P) T) (hr.mono (by decide)) T.b_Shape_best .nil pass0 (pa_cons (pv 1) pa_nil)) (k_pgT K rfl (by rfl) (pgs_cons (pg_name (i := 6) sc_Shape_clear.nd rfl (by first | exact Or.inl rfl | exact Or.inr rfl)) (pgs_cons (pg_name (i := 7) sc_Shape_clear.nd rfl (by first | exact Or.inl rfl | exact Or.inr rfl)) (pgs_cons (pg_name (i := 8) sc_Shape_clear.nd rfl (by first | exact Or.inl rfl | exact Or.inr rfl)) pgs_nil)))))
  (pss_cons (ps_if (pt_cmpR op_eq (pv 6) (pe_fld (pv 0) rfl) (nomark _))
    (pss_one ps_retN)
    pss_nil)
  (pss_cons (ps_for PassesOwn.never rfl (k_piL K rfl (pe_lst (pa_cons (pe_fld (pv 0) rfl) (pa_cons (pe_fld (pv 0) rfl) pa_nil)))) (pg_name (i := 2) sc_Shape_clear.nd rfl (by first | exact Or.inl rfl | exact Or.inr rfl))
    (pss_one (ps_asg (pe_tup (pa_cons (pe_ix (k_ixL K rfl) (pv 2) (pv 7) (fun _ _ => rfl)) (pa_cons (pe_ix (k_ixL K rfl) (pv 2) (pv 1) (fun _ _ => rfl)) pa_nil))) (k_pgT K rfl (by rfl) (pgs_cons (pg_sub (pv 2) (pv 1) set_list) (pgs_cons (pg_sub (pv 2) (pv 7) set_list) pgs_nil))))))
  (pss_cons (ps_for PassesOwn.never rfl (k_piL K rfl (pe_lst (pa_cons (pe_fld (pv 0) rfl) (pa_cons (pe_fld (pv 0) rfl) pa_nil)))) (pg_name (i := 2) sc_Shape_clear.nd rfl (by first | exact Or.inl rfl | exact Or.inr rfl))
    (pss_one (ps_expr (pe_call (G_exchange_columns (P := P) T) (hr.mono (by decide)) (by rfl) T.g_exchange_columns T.F_exchange_columns.kp T.b_exchange_columns .nil pass0 (pa_cons (pv 2) (pa_cons (pv 1) (pa_cons (pv 8) pa_nil)))))))
  (pss_cons (ps_set (i := 3) sc_Shape_clear.nd rfl (by first | exact Or.inl rfl | exact Or.inr rfl) (pe_call (G_inverse (P := P) T) (hr.mono (by decide)) (by rfl) T.g_inverse T.F_inverse.kp T.b_inverse .nil pass0 (pa_cons (pe_op op_shr (pe_ix (k_ixL K rfl) (pe_ix (k_ixL K rfl) (pe_fld (pv 0) rfl) (pv 1) (fun _ _ => rfl)) (pv 1) (fun _ _ => rfl)) (pv 6)) (pa_cons (pe_fld (pv 0) rfl) pa_nil))))
  (pss_cons (ps_for PassesOwn.never rfl (k_piL K rfl (pe_lst (pa_cons (pe_fld (pv 0) rfl) (pa_cons (pe_fld (pv 0) rfl) pa_nil)))) (pg_name (i := 2) sc_Shape_clear.nd rfl (by first | exact Or.inl rfl | exact Or.inr rfl))
    (pss_one (ps_asg (pe_meth (pv 0) T.cl_Shape T.me_Shape_lessened (G_Shape_lessened (P := P) T) (hr.mono (by decide)) T.b_Shape_lessened .nil pass0 (pa_cons (pe_lc (own := [("number", 9)]) (g := gName 9) (tt := tYes) (by rfl) sc_Shape_clear.nd (k_piL K rfl (pe_ix (k_ixL K rfl) (pv 2) (pv 1) (fun _ _ => rfl))) (blkOk_by (own := [("number", 9)]) (N := N_Shape_clear) (sc := defScope s_Shape_clear) (by decide +kernel)) (fun _ _ _ _ _ => (pg_name (i := 9) sc_Shape_clear.nd rfl (by first | exact Or.inl rfl | exact Or.inr rfl))) (fun _ _ _ _ _ => pts_nil) (fun _ _ _ _ _ => (pe_op op_mul (pv 3) (pv 9)))) pa_nil)) (pg_sub (pv 2) (pv 1) set_list))))
  (pss_cons (ps_for PassesOwn.never rfl (pi_range2 (by rfl) T.n_range (pa_cons (pe_op op_add (pv 1) pe_int) (pa_cons (pe_callB (k_len K rfl) (by rfl) T.n_len (by decide +kernel) (pa_cons (pe_fld (pv 0) rfl) pa_nil)) pa_nil))) (pg_name (i := 4) sc_Shape_clear.nd rfl (by first | exact Or.inl rfl | exact Or.inr rfl))
    (pss_one (ps_expr (pe_meth (pv 0) T.cl_Shape T.me_Shape_take_row (G_Shape_take_row (P := P) T) (hr.mono (by decide)) T.b_Shape_take_row .nil pass0 (pa_cons (pv 4) (pa_cons (pv 1) (pa_cons (pe_op op_shr (pe_ix (k_ixL K rfl) (pe_ix (k_ixL K rfl) (pe_fld (pv 0) rfl) (pv 4) (fun _ _ => rfl)) (pv 1) (fun _ _ => rfl)) (pv 6)) pa_nil)))))))
  (pss_cons (ps_for PassesOwn.never rfl (pi_range2 (by rfl) T.n_range (pa_cons (pe_op op_add (pv 1) pe_int) (pa_cons (pe_fld (pv 0) rfl) pa_nil))) (pg_name (i := 5) sc_Shape_clear.nd rfl (by first | exact Or.inl rfl | exact Or.inr rfl))
    (pss_one (ps_expr (pe_meth (pv 0) T.cl_Shape T.me_Shape_take_column (G_Shape_take_column (P := P) T) (hr.mono (by decide)) T.b_Shape_take_column .nil pass0 (pa_cons (pv 5) (pa_cons (pv 1) (pa_cons (pe_op op_shr (pe_ix (k_ixL K rfl) (pe_ix (k_ixL K rfl) (pe_fld (pv 0) rfl) (pv 1) (fun _ _ => rfl)) (pv 5) (fun _ _ => rfl)) (pv 6)) pa_nil)))))))
  (pss_one (ps_expr (pe_bm PySem.F.plainAttrs_list PySem.F.slot_list_append PySem.F.type_list_append mt_append (pe_fld (pv 0) rfl) (pa_cons (pv 6) pa_nil)))))))))))), ?_⟩
  have hN : (0 : Int) < 2 ^ d := Int.pow_pos (by decide)
  have hN2 := two_le24 d2
  have small : ∀ {G : Nat → Nat → Int}, Red (2 ^ d) n w G → ∀ i j, i < n → j < w → (G i j).natAbs < 2 ^ 60 := fun h i j hi hj => by have := h i j hi hj; omega
  refine ⟨_, rfl, x, dx, _, rfl, hX.hx, rfl, _, rfl, H0, x, d, n, w, pw.length, G, L, R, pw, rfl, ⟨dx, pg, pl, pr, pp, ag, al, ar, hX⟩, kn, kw, hn, hw, d2, small hRed, fun H1 t p a b s1 ht a1 a2 b1 b2 pd tw dv => ?_⟩
  refine ⟨t, _, rfl, .inl (.inl ht), rfl, _, _, rfl, _, _, rfl, _, _, rfl, rfl, ?_⟩
  have hX1 := hX.same s1
  refine ⟨_, rfl, _, rfl, x, T.C_Shape, dx, _, _, rfl, hX1.hx, T.cl_Shape, T.na_Shape_depth, rfl, rfl, _, rfl, ?_⟩
  by_cases pe : p = d
  · refine iteET (by rw [pe]) ?_
    exact q1 H1 s1 fun i j h1 h2 h3 h4 => by rw [← pe]; exact dv i j h1 h2 h3 h4
  refine iteEF (by omega) ?_
  have pd' : p < d := by omega
  have tw' := tw pd'
  refine ⟨_, rfl, x, T.C_Shape, dx, _, _, rfl, hX1.hx, T.cl_Shape, T.na_Shape_grid, rfl, _, rfl, x, T.C_Shape, dx, _, _, rfl, hX1.hx, T.cl_Shape, T.na_Shape_left, rfl, (by show 2 ≤ sizeLine; decide), fun ls nls => ?_⟩
  obtain ⟨H2, e2, s2, hls⟩ := fresh (.lst [V.ref pg, .ref pl]) nls
  rw [e2]
  have lsx : ls ≠ pg ∧ ls ≠ pl := ⟨fun z => (by rw [z, hX1.hg] at nls; cases nls), fun z => (by rw [z, hX1.hl] at nls; cases nls)⟩
  refine ⟨ls, rfl, ⟨_, .inl (.inl hls)⟩, ?_⟩
  refine for_list (K := K) (a := ls) (xs := [V.ref pg, .ref pl]) (fun i σ HA => ∃ (ag' al' : List Addr) (v2 : Option V), σ = [some (.ref x), some (.int (pw.length : Nat)), v2, none, none, none, some (.int (p : Nat)), some (.int (a : Nat)), some (.int (b : Nat)), none] ∧ Same H0 HA ∧ HA ls = some (.lst [V.ref pg, .ref pl]) ∧ ShpX T.C_Shape H0 HA x dx d n w pg pl pr pp ag' al' ar (if 0 < i then (fun i j => G (swp pw.length a i) j) else G) (if 1 < i then (fun i j => L (swp pw.length a i) j) else L) R pw) ⟨ag, al, none, rfl, (s0.trans s1).trans s2, hls, hX1.same s2⟩ (fun i σ HA _ ⟨_, _, _, _, _, h, _⟩ => .inl (.inl h)) ?_ ?_
  · rintro i y σ HA hy ⟨ag', al', v2, rfl, sA, hlsA, hXA⟩
    obtain ⟨p0, as, rfl, hp, hlen, close⟩ : ∃ (p0 : Addr) (as : List Addr), y = .ref p0 ∧ HA p0 = some (.lst (as.map V.ref)) ∧ as.length = n ∧ ∀ HB (v2 : Option V) ra rb, as[pw.length]? = some ra → as[a]? = some rb → (∀ c o, c ≠ p0 → HA c = some o → HB c = some o) → HB p0 = some (.lst (((as.set pw.length rb).set a ra).map V.ref)) →
        ∃ (ag' al' : List Addr) (v2' : Option V), [some (V.ref x), some (.int (pw.length : Nat)), v2, none, none, none, some (.int (p : Nat)), some (.int (a : Nat)), some (.int (b : Nat)), none] = [some (V.ref x), some (.int (pw.length : Nat)), v2', none, none, none, some (.int (p : Nat)), some (.int (a : Nat)), some (.int (b : Nat)), none] ∧ Same H0 HB ∧ HB ls = some (.lst [V.ref pg, .ref pl]) ∧ ShpX T.C_Shape H0 HB x dx d n w pg pl pr pp ag' al' ar (if 0 < i + 1 then (fun i j => G (swp pw.length a i) j) else G) (if 1 < i + 1 then (fun i j => L (swp pw.length a i) j) else L) R pw := by
      have outer : ∀ {HB p}, H0 p = none → (∀ c o, c ≠ p → HA c = some o → HB c = some o) → Same H0 HB := fun np s c o h => s c o (fun z => by rw [z, np] at h; cases h) (sA _ _ h)
      match i, hy with
      | 0, hy =>
        cases hy
        exact ⟨pg, ag', rfl, hXA.hg, hXA.lg, fun HB v2 ra rb hra hrb s hB => ⟨_, al', v2, rfl, outer (hX.nn pg (by simp)) s, s _ _ lsx.1 hlsA, hXA.swG s hra hrb hB⟩⟩
      | 1, hy =>
        cases hy
        exact ⟨pl, al', rfl, hXA.hl, hXA.ll, fun HB v2 ra rb hra hrb s hB => ⟨ag', _, v2, rfl, outer (hX.nn pl (by simp)) s, s _ _ lsx.2 hlsA, hXA.swL s hra hrb hB⟩⟩
      | i + 2, hy => simp at hy
    have hra : as[pw.length]? = some (as[pw.length]'(by omega)) := List.getElem?_eq_getElem (by omega)
    have hrb : as[a]? = some (as[a]'(by omega)) := List.getElem?_eq_getElem (by omega)
    generalize as[pw.length]'(by omega) = ra at *
    generalize as[a]'(by omega) = rb at *
    have hma : (as.map V.ref)[pw.length]? = some (.ref ra) := by rw [List.getElem?_map, hra]; rfl
    have hmb : (as.map V.ref)[a]? = some (.ref rb) := by rw [List.getElem?_map, hrb]; rfl
    refine ⟨_, rfl, _, rfl, p0, _, _, _, rfl, rfl, .inl (.inl hp), atI_nat hmb, _, rfl, _, rfl, p0, _, _, _, rfl, rfl, .inl (.inl hp), atI_nat hma, (by show 2 ≤ sizeLine; decide), fun T1 nT => ?_⟩
    have sT := same_upd (o := .tup [V.ref rb, V.ref ra]) nT
    have hpT := sT _ _ hp
    refine ⟨T1, _, rfl, .inl (.inl upd_same), rfl, ?_⟩
    generalize upd HA T1 (.tup [V.ref rb, V.ref ra]) = HT at *
    refine ⟨_, _, rfl, _, rfl, _, rfl, p0, _, _, pw.length, rfl, rfl, hpT, ?_, ?_⟩
    · unfold ixN
      rw [if_pos (by omega), if_pos (by rw [List.length_map]; omega)]
      rfl
    refine ⟨_, _, rfl, _, rfl, _, rfl, p0, _, _, a, rfl, rfl, upd_same, ?_, ?_⟩
    · unfold ixN
      rw [if_pos (by omega), if_pos (by rw [List.length_set, List.length_map]; omega)]
      rfl
    refine ⟨rfl, close _ _ ra rb hra hrb (fun c o hc ho => by rw [upd_ne hc, upd_ne hc]; exact sT _ _ ho) ?_⟩
    rw [upd_same, List.map_set, List.map_set]
  rintro σ H3 ⟨ag1, al1, v2, rfl, s3, hls3, hX3⟩
  clear hls3
  have hX3 : ShpX T.C_Shape H0 H3 x dx d n w pg pl pr pp ag1 al1 ar (fun i j => G (swp pw.length a i) j) (fun i j => L (swp pw.length a i) j) R pw := hX3
  have hS3 := hS.swR kn a2
  have hR3 := hRed.swR kn a2
  have hC3 := hClr.swR kn a2 (Nat.le_refl _) a1
  have dv3 : Dv (2 ^ p) n w pw.length fun i j => G (swp pw.length a i) j := fun i j h1 h2 h3 h4 => dv _ _ (swp_ge (Nat.le_refl _) a1 h1) (swp_lt kn a2 h2) h3 h4
  have tw3 : Twos ((fun i j => G (swp pw.length a i) j) pw.length b) d p := by
    show Twos (G (swp pw.length a pw.length) b) d p
    rw [show swp pw.length a pw.length = a by unfold swp; rw [if_pos rfl]]
    exact tw'
  generalize (fun i j => G (swp pw.length a i) j) = G1 at *
  generalize (fun i j => L (swp pw.length a i) j) = L1 at *
  refine ⟨_, rfl, x, T.C_Shape, dx, _, _, rfl, hX3.hx, T.cl_Shape, T.na_Shape_grid, rfl, _, rfl, x, T.C_Shape, dx, _, _, rfl, hX3.hx, T.cl_Shape, T.na_Shape_right, rfl, (by show 2 ≤ sizeLine; decide), fun ls2 nls2 => ?_⟩
  obtain ⟨H4, e4, s4, hls2⟩ := fresh (.lst [V.ref pg, .ref pr]) nls2
  rw [e4]
  refine ⟨ls2, rfl, ⟨_, .inl (.inl hls2)⟩, ?_⟩
  refine for_list (K := K) (a := ls2) (xs := [V.ref pg, .ref pr]) (fun i σ HA => ∃ (v2 : Option V), σ = [some (.ref x), some (.int (pw.length : Nat)), v2, none, none, none, some (.int (p : Nat)), some (.int (a : Nat)), some (.int (b : Nat)), none] ∧ Same H0 HA ∧ HA ls2 = some (.lst [V.ref pg, .ref pr]) ∧ ShpX T.C_Shape H0 HA x dx d n w pg pl pr pp ag1 al1 ar (if 0 < i then exC G1 pw.length b else G1) L1 (if 1 < i then exC R pw.length b else R) pw) ⟨_, rfl, s3.trans s4, hls2, hX3.same s4⟩ (fun i σ HA _ ⟨_, _, _, h, _⟩ => .inl (.inl h)) ?_ ?_
  · rintro i y σ HA hy ⟨v2, rfl, sA, hlsA, hXA⟩
    have lsn : ∀ {as : List Addr}, (∀ c ∈ as, c ∈ ag1 ∨ c ∈ ar) → ls2 ∉ as := fun hs hm => by
      have := (hX3.held (by rcases hs _ hm with k | k; exact .inr (.inl k); exact .inr (.inr (.inr k)))).2
      exact this nls2
    obtain ⟨p0, as, M', rfl, hp, hR, hlen, close⟩ : ∃ (p0 : Addr) (as : List Addr) (M' : Nat → Nat → Int), y = .ref p0 ∧ HA p0 = some (.lst (as.map V.ref)) ∧ Rw H0 p0 HA as w M' ∧ as.length ≤ 100 ∧ ∀ HB (v2 : Option V), (∀ c o, c ∉ as → HA c = some o → HB c = some o) → Rw H0 p0 HB as w (exC M' pw.length b) →
        ∃ (v2' : Option V), [some (V.ref x), some (.int (pw.length : Nat)), v2, none, none, none, some (.int (p : Nat)), some (.int (a : Nat)), some (.int (b : Nat)), none] = [some (V.ref x), some (.int (pw.length : Nat)), v2', none, none, none, some (.int (p : Nat)), some (.int (a : Nat)), some (.int (b : Nat)), none] ∧ Same H0 HB ∧ HB ls2 = some (.lst [V.ref pg, .ref pr]) ∧ ShpX T.C_Shape H0 HB x dx d n w pg pl pr pp ag1 al1 ar (if 0 < i + 1 then exC G1 pw.length b else G1) L1 (if 1 < i + 1 then exC R pw.length b else R) pw := by
      have outer : ∀ {HB p} {as : List Addr} {M : Nat → Nat → Int}, Rw H0 p HA as w M → (∀ c o, c ∉ as → HA c = some o → HB c = some o) → Same H0 HB := fun hR s c o h => s c o (fun z => by rw [(hR.mem z).1] at h; cases h) (sA _ _ h)
      match i, hy with
      | 0, hy =>
        cases hy
        exact ⟨pg, ag1, G1, rfl, hXA.hg, hXA.rg, by rw [hXA.lg]; exact hn, fun HB v2 s hB => ⟨v2, rfl, outer hXA.rg s, s _ _ (lsn fun c hc => .inl hc) hlsA, hXA.inG s hB⟩⟩
      | 1, hy =>
        cases hy
        exact ⟨pr, ar, R, rfl, hXA.hr, hXA.rr, by rw [hXA.lr]; exact hw, fun HB v2 s hB => ⟨v2, rfl, outer hXA.rr s, s _ _ (lsn fun c hc => .inr hc) hlsA, hXA.inR s hB⟩⟩
      | i + 2, hy => simp at hy
    exact ⟨_, rfl, _, rfl, _, rfl, p0, as, H0, w, pw.length, b, M', rfl, hp, hR, kw, b2, hw, hlen, fun HB sB hB => close HB _ sB hB⟩
  rintro σ H5 ⟨v2, rfl, s5, hls5, hX5⟩
  clear hls5
  have hX5 : ShpX T.C_Shape H0 H5 x dx d n w pg pl pr pp ag1 al1 ar (exC G1 pw.length b) L1 (exC R pw.length b) pw := hX5
  have hS5 := hS3.swC kw b2
  have hR5 := hR3.swC kw b2
  have hC5 := hC3.swC kw b2 (Nat.le_refl _) b1
  have dv5 : Dv (2 ^ p) n w pw.length (exC G1 pw.length b) := fun i j h1 h2 h3 h4 => dv3 _ _ h1 h2 (swp_ge (Nat.le_refl _) b1 h3) (swp_lt kw b2 h4)
  have tw5 : Twos (exC G1 pw.length b pw.length pw.length) d p := by
    show Twos (G1 pw.length (swp pw.length b pw.length)) d p
    rw [show swp pw.length b pw.length = b by unfold swp; rw [if_pos rfl]]
    exact tw3
  generalize exC G1 pw.length b = G2 at *
  generalize exC R pw.length b = R2 at *
  have hr1 : ag1[pw.length]? = some (ag1[pw.length]'(by have := hX5.lg; omega)) := List.getElem?_eq_getElem _
  obtain ⟨_, _, hrow1⟩ := hX5.rg.2 pw.length _ hr1
  generalize ag1[pw.length]'(by have := hX5.lg; omega) = r1 at *
  have hpp : (0 : Int) < 2 ^ p := Int.pow_pos (by decide)
  have hbd := hR5 _ _ kn kw
  obtain ⟨u, hu⟩ := tw5.2.1
  have hdiv : G2 pw.length pw.length / 2 ^ p = u := by rw [hu, Int.mul_ediv_cancel_left _ (by omega)]
  have u0 : 0 ≤ u := by rw [← hdiv]; exact Int.ediv_nonneg hbd.1 (by omega)
  have u1 : u < 2 ^ 24 := by
    have := Int.ediv_le_self (2 ^ p) hbd.1
    rw [hdiv] at this
    omega
  have uo : u % 2 = 1 := by
    have := tw5.2.2 pd'
    refine Classical.byContradiction fun z => this ⟨u / 2, ?_⟩
    rw [hu, Int.pow_succ, Int.mul_assoc]
    congr 1
    omega
  refine ⟨_, rfl, x, T.C_Shape, dx, _, _, rfl, hX5.hx, T.cl_Shape, T.na_Shape_grid, rfl, _, rfl, pg, _, _, _, rfl, rfl, .inl (.inl hX5.hg), atI_nat (by rw [List.getElem?_map, hr1]; rfl), _, rfl, r1, _, _, _, rfl, rfl, .inl (.inl hrow1), atI_nat (rowZ_get _ kw), _, rfl, _, _, rfl, rfl, by omega, _, rfl, x, T.C_Shape, dx, _, _, rfl, hX5.hx, T.cl_Shape, T.na_Shape_size, rfl, ?_⟩
  dsimp only
  rw [Int.toNat_natCast, hdiv]
  refine ⟨u, d, rfl, u0, u1, uo, d1, d2, fun c c0 c1 hc => ?_⟩
  refine ⟨_, rfl, x, T.C_Shape, dx, _, _, rfl, hX5.hx, T.cl_Shape, T.na_Shape_grid, rfl, _, rfl, x, T.C_Shape, dx, _, _, rfl, hX5.hx, T.cl_Shape, T.na_Shape_left, rfl, (by show 2 ≤ sizeLine; decide), fun ls3 nls3 => ?_⟩
  obtain ⟨H6, e6, s6, hls3⟩ := fresh (.lst [V.ref pg, .ref pl]) nls3
  rw [e6]
  have lsy : ls3 ≠ pg ∧ ls3 ≠ pl := ⟨fun z => (by rw [z, hX5.hg] at nls3; cases nls3), fun z => (by rw [z, hX5.hl] at nls3; cases nls3)⟩
  refine ⟨ls3, rfl, ⟨_, .inl (.inl hls3)⟩, ?_⟩
  refine for_list (K := K) (a := ls3) (xs := [V.ref pg, .ref pl]) (fun i σ HA => ∃ (ag' al' : List Addr) (v2 : Option V), σ = [some (.ref x), some (.int (pw.length : Nat)), v2, some (.int c), none, none, some (.int (p : Nat)), some (.int (a : Nat)), some (.int (b : Nat)), none] ∧ Same H0 HA ∧ HA ls3 = some (.lst [V.ref pg, .ref pl]) ∧ ShpX T.C_Shape H0 HA x dx d n w pg pl pr pp ag' al' ar (if 0 < i then scR (2 ^ d) pw.length c G2 else G2) (if 1 < i then scR (2 ^ d) pw.length c L1 else L1) R2 pw) ⟨ag1, al1, _, rfl, s5.trans s6, hls3, hX5.same s6⟩ (fun i σ HA _ ⟨_, _, _, _, _, h, _⟩ => .inl (.inl h)) ?_ ?_
  · rintro i y σ HA hy ⟨ag', al', v2, rfl, sA, hlsA, hXA⟩
    obtain ⟨p0, as, wd, M', rfl, hp, hR, hlen, hwd, close⟩ : ∃ (p0 : Addr) (as : List Addr) (wd : Nat) (M' : Nat → Nat → Int), y = .ref p0 ∧ HA p0 = some (.lst (as.map V.ref)) ∧ Rw H0 p0 HA as wd M' ∧ as.length = n ∧ wd ≤ 100 ∧ ∀ HB q0 (v2 : Option V), (∀ c o, c ≠ p0 → HA c = some o → HB c = some o) → HB p0 = some (.lst ((as.set pw.length q0).map V.ref)) → HA q0 = none → HB q0 = some (.lst (rowZ wd (scR (2 ^ d) pw.length c M' pw.length))) →
        ∃ (ag' al' : List Addr) (v2' : Option V), [some (V.ref x), some (.int (pw.length : Nat)), v2, some (.int c), none, none, some (.int (p : Nat)), some (.int (a : Nat)), some (.int (b : Nat)), none] = [some (V.ref x), some (.int (pw.length : Nat)), v2', some (.int c), none, none, some (.int (p : Nat)), some (.int (a : Nat)), some (.int (b : Nat)), none] ∧ Same H0 HB ∧ HB ls3 = some (.lst [V.ref pg, .ref pl]) ∧ ShpX T.C_Shape H0 HB x dx d n w pg pl pr pp ag' al' ar (if 0 < i + 1 then scR (2 ^ d) pw.length c G2 else G2) (if 1 < i + 1 then scR (2 ^ d) pw.length c L1 else L1) R2 pw := by
      have re : ∀ (M : Nat → Nat → Int) (i j : Nat), i ≠ pw.length → M i j = scR (2 ^ d) pw.length c M i j := fun M i j h => by unfold scR; rw [if_neg h]
      have outer : ∀ {HB p}, H0 p = none → (∀ c o, c ≠ p → HA c = some o → HB c = some o) → Same H0 HB := fun np s c o h => s c o (fun z => by rw [z, np] at h; cases h) (sA _ _ h)
      match i, hy with
      | 0, hy =>
        cases hy
        refine ⟨pg, ag', w, G2, rfl, hXA.hg, hXA.rg, hXA.lg, hw, fun HB q0 v2 s hB nq hq => ⟨ag'.set pw.length q0, al', v2, rfl, outer (hX.nn pg (by simp)) s, s _ _ lsy.1 hlsA, ?_⟩⟩
        exact hXA.setG sA s hB nq hq fun i j h _ => re G2 i j h
      | 1, hy =>
        cases hy
        refine ⟨pl, al', n, L1, rfl, hXA.hl, hXA.rl, hXA.ll, hn, fun HB q0 v2 s hB nq hq => ⟨ag', al'.set pw.length q0, v2, rfl, outer (hX.nn pl (by simp)) s, s _ _ lsy.2 hlsA, ?_⟩⟩
        exact hXA.setL sA s hB nq hq fun i j h _ => re L1 i j h
      | i + 2, hy => simp at hy
    have hra : as[pw.length]? = some (as[pw.length]'(by omega)) := List.getElem?_eq_getElem (by omega)
    obtain ⟨_, _, hrow⟩ := hR.2 pw.length _ hra
    generalize as[pw.length]'(by omega) = r2 at *
    refine ⟨_, rfl, x, dx, _, rfl, hXA.hx, rfl, ?_⟩
    refine ⟨_, rfl, _, rfl, p0, _, _, _, rfl, rfl, .inl (.inl hp), atI_nat (by rw [List.getElem?_map, hra]; rfl), r2, rfl, ⟨_, .inl (.inl hrow)⟩, fun D nD => ?_⟩
    refine lc_mapL (K := K) (xs := rowZ wd (M' pw.length)) (rowZ wd fun j => c * M' pw.length j) nD (.inl (.inl hrow)) (by rw [rowZ_len, rowZ_len]) (by rw [rowZ_len]; exact small4 (by omega)) (fun x => rfl) ?_ ?_
    · intro k z y H' hx hy s Qt qt
      have hk : k < wd := by
        have := (List.getElem?_eq_some_iff.mp hx).1
        rw [rowZ_len] at this
        exact this
      rw [rowZ_get _ hk] at hx hy
      cases hx
      cases hy
      exact ⟨_, rfl, _, rfl, _, _, rfl, rfl, .inl ⟨by omega, by omega⟩, qt _ (Same.refl _)⟩
    · intro H2 s2 hD
      rw [rowZ_ints] at hD
      refine ⟨x, D, dx, _, d, _, rfl, s2 _ _ hXA.hx, hD, by rw [List.length_map, List.length_range]; omega, fun H3 q0 s3 nq hq => ?_⟩
      have s23 := s2.trans s3
      refine ⟨_, rfl, _, rfl, p0, _, _, pw.length, rfl, rfl, s23 _ _ hp, ?_, ?_⟩
      · unfold ixN
        rw [if_pos (by omega), if_pos (by rw [List.length_map]; omega)]
        rfl
      have qp : q0 ≠ p0 := fun z => by rw [z, s2 _ _ hp] at nq; cases nq
      refine close _ q0 _ (fun c o hc ho => by rw [upd_ne hc]; exact s23 _ _ ho) ?_ (s2.free nq) ?_
      · rw [upd_same, List.map_set]
      · rw [upd_ne qp, hq, List.length_map, List.length_range]
        refine congrArg (fun l => some (HO.lst l)) (rowZ_congr fun j hj => ?_)
        unfold scR
        rw [if_pos rfl, List.getD_eq_getElem?_getD, List.getElem?_map, List.getElem?_range hj]
        rfl
  rintro σ H7 ⟨ag2, al2, v3, rfl, s7, hls7, hX7⟩
  clear hls7
  have hX7 : ShpX T.C_Shape H0 H7 x dx d n w pg pl pr pp ag2 al2 ar (scR (2 ^ d) pw.length c G2) (scR (2 ^ d) pw.length c L1) R2 pw := hX7
  have hS7 := hS5.scRow (p := pw.length) (c := c) (c' := u) (by rw [Int.mul_comm]; exact hc)
  have hC7 : Clg d n w p pw (scR (2 ^ d) pw.length c G2) := clg_start hR5 hC5 dv5 kn kw pd' (by rw [hdiv]; exact hc)
  generalize scR (2 ^ d) pw.length c G2 = G3 at *
  generalize scR (2 ^ d) pw.length c L1 = L3 at *
  have hk1 : (((n : Nat) : Int) - (((pw.length : Nat) : Int) + 1)).toNat = n - (pw.length + 1) := by omega
  have hk2 : (((w : Nat) : Int) - (((pw.length : Nat) : Int) + 1)).toNat = w - (pw.length + 1) := by omega
  refine ⟨_, rfl, _, _, rfl, rfl, _, rfl, x, T.C_Shape, dx, _, _, rfl, hX7.hx, T.cl_Shape, T.na_Shape_grid, rfl, pg, _, rfl, .inl (.inl (.inl hX7.hg)), ?_⟩
  rw [List.length_map, hX7.lg]
  refine ⟨_, _, rfl, ⟨by omega, by omega, by omega, by omega⟩, ?_⟩
  rw [hk1]
  refine for_range (lo := ((pw.length : Nat) : Int) + 1) (n := n - (pw.length + 1)) (fun i σ HA => ∃ (ag' al' : List Addr) (G' L' : Nat → Nat → Int) (v4 : Option V), σ = [some (.ref x), some (.int (pw.length : Nat)), v3, some (.int c), v4, none, some (.int (p : Nat)), some (.int (a : Nat)), some (.int (b : Nat)), none] ∧ Same H0 HA ∧ ShpX T.C_Shape H0 HA x dx d n w pg pl pr pp ag' al' ar G' L' R2 pw ∧ SInv (2 ^ d) n w M G' L' R2 ∧ Clg d n w p pw G' ∧ ∀ j, pw.length < j → j < pw.length + 1 + i → G' j pw.length = 0) ⟨ag2, al2, G3, L3, none, rfl, s7, hX7, hS7, hC7, fun j h1 h2 => absurd h2 (by omega)⟩ ?_ ?_
  · rintro i σ HA hi ⟨ag', al', G', L', v4, rfl, sA, hXA, hSA, hCA, hz⟩
    obtain ⟨m, em⟩ : ∃ m : Nat, ((pw.length : Nat) : Int) + 1 + (i : Int) = (m : Int) := ⟨pw.length + 1 + i, by omega⟩
    rw [em]
    have km : pw.length < m := by omega
    have mn : m < n := by omega
    have hrm : ag'[m]? = some (ag'[m]'(by have := hXA.lg; omega)) := List.getElem?_eq_getElem _
    obtain ⟨_, _, hrow⟩ := hXA.rg.2 m _ hrm
    generalize ag'[m]'(by have := hXA.lg; omega) = rm at *
    have hb := hCA.red m pw.length mn kw
    obtain ⟨hC', hz'⟩ := hCA.row km mn
    have f0 := Int.ediv_nonneg (b := 2 ^ p) hb.1 (by omega)
    have f1 := Int.ediv_le_self (2 ^ p) hb.1
    refine ⟨_, rfl, x, dx, _, rfl, hXA.hx, rfl, _, rfl, _, rfl, _, rfl, x, T.C_Shape, dx, _, _, rfl, hXA.hx, T.cl_Shape, T.na_Shape_grid, rfl, _, rfl, pg, _, _, _, rfl, rfl, .inl (.inl hXA.hg), atI_nat (by rw [List.getElem?_map, hrm]; rfl), _, rfl, rm, _, _, _, rfl, rfl, .inl (.inl hrow), atI_nat (rowZ_get _ kw), _, rfl, _, _, rfl, rfl, by omega, ?_⟩
    dsimp only
    rw [Int.toNat_natCast]
    refine ⟨H0, x, dx, d, n, w, m, pw.length, G' m pw.length / 2 ^ p, pg, pl, pr, pp, ag', al', ar, G', L', R2, pw, rfl, sA, hXA, mn, kn, hn, hw, by omega, fun HB ag'' al'' sB hXB => ?_⟩
    refine ⟨ag'', al'', _, _, _, rfl, sB, hXB, hSA.trRow _ kn (by omega), hC', fun j h1 h2 => ?_⟩
    by_cases e : j = m
    · rw [e]; exact hz'
    · unfold rowT
      rw [if_neg e]
      exact hz j h1 (by omega)
  rintro σ H8 ⟨ag3, al3, G4, L4, v4, rfl, s8, hX8, hS8, hC8, hz8⟩
  have hz8 : ∀ i, pw.length < i → i < n → G4 i pw.length = 0 := fun j h1 h2 => hz8 j h1 (by omega)
  refine ⟨_, rfl, _, _, rfl, rfl, _, rfl, x, T.C_Shape, dx, _, _, rfl, hX8.hx, T.cl_Shape, T.na_Shape_wide, rfl, ?_⟩
  refine ⟨_, _, rfl, ⟨by omega, by omega, by omega, by omega⟩, ?_⟩
  rw [hk2]
  refine for_range (lo := ((pw.length : Nat) : Int) + 1) (n := w - (pw.length + 1)) (fun i σ HA => ∃ (G' R' : Nat → Nat → Int) (v5 : Option V), σ = [some (.ref x), some (.int (pw.length : Nat)), v3, some (.int c), v4, v5, some (.int (p : Nat)), some (.int (a : Nat)), some (.int (b : Nat)), none] ∧ Same H0 HA ∧ ShpX T.C_Shape H0 HA x dx d n w pg pl pr pp ag3 al3 ar G' L4 R' pw ∧ SInv (2 ^ d) n w M G' L4 R' ∧ Clg d n w p pw G' ∧ (∀ j, pw.length < j → j < n → G' j pw.length = 0) ∧ ∀ j, pw.length < j → j < pw.length + 1 + i → G' pw.length j = 0) ⟨G4, R2, none, rfl, s8, hX8, hS8, hC8, hz8, fun j h1 h2 => absurd h2 (by omega)⟩ ?_ ?_
  · rintro i σ HA hi ⟨G', R', v5, rfl, sA, hXA, hSA, hCA, hzr, hzc⟩
    obtain ⟨m, em⟩ : ∃ m : Nat, ((pw.length : Nat) : Int) + 1 + (i : Int) = (m : Int) := ⟨pw.length + 1 + i, by omega⟩
    rw [em]
    have km : pw.length < m := by omega
    have mw : m < w := by omega
    have hrm : ag3[pw.length]? = some (ag3[pw.length]'(by have := hXA.lg; omega)) := List.getElem?_eq_getElem _
    obtain ⟨_, _, hrow⟩ := hXA.rg.2 pw.length _ hrm
    generalize ag3[pw.length]'(by have := hXA.lg; omega) = rm at *
    have hb := hCA.red pw.length m kn mw
    obtain ⟨hC', hz'⟩ := hCA.col hzr km mw
    have f0 := Int.ediv_nonneg (b := 2 ^ p) hb.1 (by omega)
    have f1 := Int.ediv_le_self (2 ^ p) hb.1
    refine ⟨_, rfl, x, dx, _, rfl, hXA.hx, rfl, _, rfl, _, rfl, _, rfl, x, T.C_Shape, dx, _, _, rfl, hXA.hx, T.cl_Shape, T.na_Shape_grid, rfl, _, rfl, pg, _, _, _, rfl, rfl, .inl (.inl hXA.hg), atI_nat (by rw [List.getElem?_map, hrm]; rfl), _, rfl, rm, _, _, _, rfl, rfl, .inl (.inl hrow), atI_nat (rowZ_get _ mw), _, rfl, _, _, rfl, rfl, by omega, ?_⟩
    dsimp only
    rw [Int.toNat_natCast]
    refine ⟨H0, x, dx, d, n, w, m, pw.length, G' pw.length m / 2 ^ p, pg, pl, pr, pp, ag3, al3, ar, G', L4, R', pw, rfl, sA, hXA, mw, kw, by omega, hn, hw, by omega, fun HB sB hXB => ?_⟩
    refine ⟨_, _, _, rfl, sB, hXB, hSA.trCol _ kw mw (by omega), hC', fun j h1 h2 => ?_, fun j h1 h2 => ?_⟩
    · unfold colT
      rw [if_neg (by omega)]
      exact hzr j h1 h2
    · by_cases e : j = m
      · rw [e]; exact hz'
      · unfold colT
        rw [if_neg e]
        exact hzc j h1 (by omega)
  rintro σ H9 ⟨G5, R5, v5, rfl, s9, hX9, hS9, hC9, hzr9, hzc9⟩
  have hzc9 : ∀ j, pw.length < j → j < w → G5 pw.length j = 0 := fun j h1 h2 => hzc9 j h1 (by omega)
  refine ⟨_, rfl, x, T.C_Shape, dx, _, _, rfl, hX9.hx, T.cl_Shape, T.na_Shape_powers, rfl, .inl ⟨rfl, _, .inl (.inl hX9.hp)⟩, _, rfl, pp, _, _, rfl, rfl, hX9.hp, by rw [nV_len]; exact small4 (by omega), ?_⟩
  refine q2 _ ag3 al3 G5 L4 R5 p (same_over (hX.nn pp (by simp)) s9) (hX9.app (fun c o hc ho => by rw [upd_ne hc]; exact ho) ?_) hS9 hC9.red (hC9.done hzr9 hzc9) pd'
  rw [upd_same]
  unfold nV
  rw [List.map_append]
  rfl
end
end My

namespace My
open PySem PySem.Spec PyProof.Rows L2 Pre
/-! ### shapes: made -/
theorem Rw.older {H0 H1 H : Hp} {f : Addr} {as : List Addr} {w : Nat} {M : Nat → Nat → Int} (h : Rw H1 f H as w M) (s : Same H0 H1) : Rw H0 f H as w M := ⟨h.1, fun i a ha => by
  obtain ⟨a1, a2, a3⟩ := h.2 i a ha
  exact ⟨s.free a1, a2, a3⟩⟩
local macro_rules | `(tactic| walk_at "go") => `(tactic| repeat (first | (with_reducible first | refine iteT ?_ | refine iteF ?_ | refine iteNtt ?_ | refine iteNff ?_ | refine iteET (by omega) ?_ | refine iteEF (by omega) ?_ | refine iteENT (by omega) ?_ | refine iteENF (by omega) ?_ | refine iteDT (by omega) ?_ | refine iteDF (by omega) ?_ | refine iteNT (by omega) ?_ | refine iteNF (by omega) ?_) | refine ⟨_, rfl, ?_⟩ | refine ⟨_, _, rfl, rfl, ?_⟩ | refine ⟨_, _, rfl, ?_⟩ | refine ⟨rfl, ?_⟩ | refine .inl ⟨_, rfl, ?_⟩ | refine .inr ⟨_, rfl, ?_⟩))
local macro_rules | `(tactic| walk_at "b") => `(tactic| try dsimp (config := { proj := false, iota := false, eta := false, zeta := false }) only)
section
variable {P : Program} {w : World} {K : PySem.W.Frag} {mg : Str → Option Value} {base : Heap}
def sp_Shape___init__ (C : Addr) : Sp := fun vs H Q _ => ∃ (H0 : Hp) (x dx p : Addr) (rs : List Addr) (d w : Nat) (M : Nat → Nat → Int), vs = [.ref x, .ref p, .int w, .int d] ∧ Same H0 H ∧ H0 x = none ∧ H x = some (.ins C dx []) ∧ H p = some (.lst (rs.map V.ref)) ∧ p ≠ x ∧ (∀ i r, rs[i]? = some r → r ≠ x ∧ H r = some (.lst (rowZ w (M i)))) ∧ rs.length ≤ 100 ∧ w ≤ 100 ∧ 1 ≤ d ∧ d ≤ 24 ∧
  ∀ H' G L R pw, Same H0 H' → ShpAt C H0 H' x d rs.length w G L R pw → SInv (2 ^ d) rs.length w M G L R → Diag (2 ^ d) rs.length w G pw → (∀ q ∈ pw, q < d) → Q .non H'
theorem G_Shape___init__ (T : Top K mg) : FnOk P w K mg base CX0 4 T.f_Shape___init__ T.fd_Shape___init__ ["self", "rows", "width", "depth"] (sp_Shape___init__ T.C_Shape) := by
  refine T.F_Shape___init__.ok sc_Shape___init__ (fun vs H Q E h => by obtain ⟨H0, x, dx, p, rs, d, w, M, rfl, _⟩ := h; rfl) (fun cdv A outer s H vs Q E hr h => ?_)
  obtain ⟨H0, x, dx, p, rs, d, w, M, rfl, s0, nx, hx, hp, px, hrs, hn, hw, d1, d2, q⟩ := h
  refine ⟨_, PSs.nox (pss_cons (ps_fld (pv 0) (pe_op op_shl pe_int (pv 3)) rfl)
  (pss_cons (ps_fld (pv 0) (pv 3) rfl)
  (pss_cons (ps_fld (pv 0) (pv 2) rfl)
  (pss_cons (ps_fld (pv 0) (pe_lc (own := [("row", 5)]) (g := gName 5) (tt := tYes) (by rfl) sc_Shape___init__.nd (k_piL K rfl (pv 1)) (blkOk_by (own := [("row", 5)]) (N := N_Shape___init__) (sc := defScope s_Shape___init__) (by decide +kernel)) (fun _ _ _ _ _ => (pg_name (i := 5) sc_Shape___init__.nd rfl (by first | exact Or.inl rfl | exact Or.inr rfl))) (fun _ _ _ _ _ => pts_nil) (fun _ _ _ _ _ => (pe_meth (pv 0) T.cl_Shape T.me_Shape_lessened (G_Shape_lessened (P := P) T) (hr.mono (by decide)) T.b_Shape_lessened .nil pass0 (pa_cons (pv 5) pa_nil)))) rfl)
  (pss_cons (ps_fld (pv 0) (pe_call (G_unit_rows (P := P) T) (hr.mono (by decide)) (by rfl) T.g_unit_rows T.F_unit_rows.kp T.b_unit_rows .nil pass0 (pa_cons (pe_callB (k_len K rfl) (by rfl) T.n_len (by decide +kernel) (pa_cons (pv 1) pa_nil)) pa_nil)) rfl)
  (pss_cons (ps_fld (pv 0) (pe_call (G_unit_rows (P := P) T) (hr.mono (by decide)) (by rfl) T.g_unit_rows T.F_unit_rows.kp T.b_unit_rows .nil pass0 (pa_cons (pv 2) pa_nil)) rfl)
  (pss_cons (ps_fld (pv 0) (pe_lst pa_nil) rfl)
  (pss_one (ps_for PassesOwn.never rfl (pi_range1 (by rfl) T.n_range (pa_cons (pe_callB (call_min2 rfl) (by rfl) T.n_min (by decide +kernel) (pa_cons (pe_callB (k_len K rfl) (by rfl) T.n_len (by decide +kernel) (pa_cons (pv 1) pa_nil)) (pa_cons (pv 2) pa_nil))) pa_nil)) (pg_name (i := 4) sc_Shape___init__.nd rfl (by first | exact Or.inl rfl | exact Or.inr rfl))
    (pss_one (ps_if (pt_cmpR op_eq (pe_callB (k_len K rfl) (by rfl) T.n_len (by decide +kernel) (pa_cons (pe_fld (pv 0) rfl) pa_nil)) (pv 4) (nomark _))
    (pss_one (ps_expr (pe_meth (pv 0) T.cl_Shape T.me_Shape_clear (G_Shape_clear (P := P) T) (hr.mono (by decide)) T.b_Shape_clear .nil pass0 (pa_cons (pv 4) pa_nil))))
    pss_nil))))))))))), ?_⟩
  have hN : (0 : Int) < 2 ^ d := Int.pow_pos (by decide)
  refine ⟨_, rfl, _, _, rfl, rfl, ⟨by omega, by omega, by decide⟩, _, rfl, x, T.C_Shape, dx, _, rfl, hx, T.cl_Shape, T.na_Shape_size, (by show 0 < 1000; decide), ?_⟩
  refine ⟨_, rfl, _, rfl, x, T.C_Shape, dx, _, rfl, upd_same, T.cl_Shape, T.na_Shape_depth, (by show 1 < 1000; decide), ?_⟩
  refine ⟨_, rfl, _, rfl, x, T.C_Shape, dx, _, rfl, upd_same, T.cl_Shape, T.na_Shape_wide, (by show 2 < 1000; decide), ?_⟩
  have hx1 : ∀ o1 o2, upd (upd (upd H x o1) x o2) x (.ins T.C_Shape dx [("size", .int (1 * 2 ^ (d : Int).toNat)), ("depth", .int (d : Nat)), ("wide", .int (w : Nat))]) x = some (.ins T.C_Shape dx [("size", .int (2 ^ d)), ("depth", .int (d : Nat)), ("wide", .int (w : Nat))]) := fun o1 o2 => by
    rw [upd_same, Int.toNat_natCast, Int.one_mul]
  have hf1 : ∀ o1 o2 o3 c o, c ≠ x → H c = some o → upd (upd (upd H x o1) x o2) x o3 c = some o := fun o1 o2 o3 c o hc h => by
    rw [upd_ne hc, upd_ne hc, upd_ne hc]; exact h
  have hx1' := hx1 (.ins T.C_Shape dx (putF (Str.ofString "size") ((fun i j => V.int (i * 2 ^ j.toNat)) 1 (d : Int)) [])) (.ins T.C_Shape dx (putF (Str.ofString "depth") (V.int (d : Nat)) (putF (Str.ofString "size") ((fun i j => V.int (i * 2 ^ j.toNat)) 1 (d : Int)) [])))
  have hf1' := hf1 (.ins T.C_Shape dx (putF (Str.ofString "size") ((fun i j => V.int (i * 2 ^ j.toNat)) 1 (d : Int)) [])) (.ins T.C_Shape dx (putF (Str.ofString "depth") (V.int (d : Nat)) (putF (Str.ofString "size") ((fun i j => V.int (i * 2 ^ j.toNat)) 1 (d : Int)) []))) (.ins T.C_Shape dx (putF (Str.ofString "wide") (V.int (w : Nat)) (putF (Str.ofString "depth") (V.int (d : Nat)) (putF (Str.ofString "size") ((fun i j => V.int (i * 2 ^ j.toNat)) 1 (d : Int)) []))))
  change upd _ x (.ins T.C_Shape dx (putF (Str.ofString "wide") (V.int (w : Nat)) (putF (Str.ofString "depth") (V.int (d : Nat)) (putF (Str.ofString "size") ((fun i j => V.int (i * 2 ^ j.toNat)) 1 (d : Int)) [])))) x = _ at hx1'
  generalize upd (upd (upd H x (.ins T.C_Shape dx (putF (Str.ofString "size") ((fun i j => V.int (i * 2 ^ j.toNat)) 1 (d : Int)) []))) x (.ins T.C_Shape dx (putF (Str.ofString "depth") (V.int (d : Nat)) (putF (Str.ofString "size") ((fun i j => V.int (i * 2 ^ j.toNat)) 1 (d : Int)) [])))) x (.ins T.C_Shape dx (putF (Str.ofString "wide") (V.int (w : Nat)) (putF (Str.ofString "depth") (V.int (d : Nat)) (putF (Str.ofString "size") ((fun i j => V.int (i * 2 ^ j.toNat)) 1 (d : Int)) [])))) = H1 at *
  clear hx1 hf1
  have hp1 := hf1' _ _ px hp
  have s01 : Same H0 H1 := fun c o h => hf1' c o (fun z => by rw [z, nx] at h; cases h) (s0 _ _ h)
  refine ⟨_, rfl, p, rfl, ⟨_, .inl (.inl hp1)⟩, fun pg npg => ?_⟩
  refine lc_gridL (K := K) (xs := rs.map V.ref) (w := w) (fun i j => M i j % 2 ^ d) npg (.inl (.inl hp1)) (by rw [List.length_map]; exact small4 (by omega)) (fun x => rfl) ?_ ?_
  · intro i y H' hy s Qt qt
    rw [List.getElem?_map] at hy
    obtain ⟨r, hr, rfl⟩ : ∃ r, rs[i]? = some r ∧ y = .ref r := by
      cases e : rs[i]? with
      | none => rw [e] at hy; cases hy
      | some r => rw [e] at hy; exact ⟨r, rfl, (Option.some.inj hy).symm⟩
    obtain ⟨rx, hrow⟩ := hrs i r hr
    rw [rowZ_ints] at hrow
    refine ⟨_, rfl, x, dx, _, rfl, s _ _ hx1', rfl, _, rfl, x, r, dx, _, d, _, rfl, s _ _ hx1', s _ _ (hf1' _ _ rx hrow), by rw [List.length_map, List.length_range]; omega, fun H'' q0 s2 nq hq => ?_⟩
    refine qt q0 _ s2 nq ?_
    rw [hq, List.length_map, List.length_range]
    refine congrArg (fun l => some (HO.lst l)) (rowZ_congr fun j hj => ?_)
    rw [List.getD_eq_getElem?_getD, List.getElem?_map, List.getElem?_range hj]
    rfl
  intro H2 ag s12 hpg lg hRg
  rw [List.length_map] at lg
  have hx2 := s12 _ _ hx1'
  have stp : ∀ (H : Hp) (o : HO), ∃ H', upd H x o = H' ∧ H' x = some o ∧ ∀ c u, c ≠ x → H c = some u → H' c = some u := fun H o => ⟨_, rfl, upd_same, fun c u hc h => by rw [upd_ne hc]; exact h⟩
  have pgx : pg ≠ x := fun z => by rw [z, hx1'] at npg; cases npg
  refine ⟨_, rfl, x, T.C_Shape, dx, _, rfl, hx2, T.cl_Shape, T.na_Shape_grid, (by show 3 < 1000; decide), ?_⟩
  obtain ⟨H3, eH3, xH3, fH3⟩ := stp H2 (.ins T.C_Shape dx [("size", .int (2 ^ d)), ("depth", .int (d : Nat)), ("wide", .int (w : Nat)), ("grid", .ref pg)])
  rw [show upd H2 x (.ins T.C_Shape dx (putF (Str.ofString "grid") (V.ref pg) [("size", .int (2 ^ d)), ("depth", .int (d : Nat)), ("wide", .int (w : Nat))])) = H3 from eH3]
  have hp3 := fH3 _ _ px (s12 _ _ hp1)
  have hpg3 := fH3 _ _ pgx hpg
  refine ⟨_, rfl, p, _, rfl, .inl (.inl (.inl hp3)), rs.length, by rw [List.length_map]; rfl, hn, fun H4 pl al s34 npl hpl ll hRl => ?_⟩
  have plx : pl ≠ x := fun z => by rw [z, xH3] at npl; cases npl
  refine ⟨_, rfl, x, T.C_Shape, dx, _, rfl, s34 _ _ xH3, T.cl_Shape, T.na_Shape_left, (by show 4 < 1000; decide), ?_⟩
  obtain ⟨H5, eH5, xH5, fH5⟩ := stp H4 (.ins T.C_Shape dx [("size", .int (2 ^ d)), ("depth", .int (d : Nat)), ("wide", .int (w : Nat)), ("grid", .ref pg), ("left", .ref pl)])
  rw [show upd H4 x (.ins T.C_Shape dx (putF (Str.ofString "left") (V.ref pl) [("size", .int (2 ^ d)), ("depth", .int (d : Nat)), ("wide", .int (w : Nat)), ("grid", .ref pg)])) = H5 from eH5]
  have hpg5 := fH5 _ _ pgx (s34 _ _ hpg3)
  have hpl5 := fH5 _ _ plx hpl
  refine ⟨_, rfl, w, rfl, hw, fun H6 pr ar s56 npr hpr lr hRr => ?_⟩
  have prx : pr ≠ x := fun z => by rw [z, xH5] at npr; cases npr
  refine ⟨_, rfl, x, T.C_Shape, dx, _, rfl, s56 _ _ xH5, T.cl_Shape, T.na_Shape_right, (by show 5 < 1000; decide), ?_⟩
  obtain ⟨H7, eH7, xH7, fH7⟩ := stp H6 (.ins T.C_Shape dx [("size", .int (2 ^ d)), ("depth", .int (d : Nat)), ("wide", .int (w : Nat)), ("grid", .ref pg), ("left", .ref pl), ("right", .ref pr)])
  rw [show upd H6 x (.ins T.C_Shape dx (putF (Str.ofString "right") (V.ref pr) [("size", .int (2 ^ d)), ("depth", .int (d : Nat)), ("wide", .int (w : Nat)), ("grid", .ref pg), ("left", .ref pl)])) = H7 from eH7]
  have hpr7 := fH7 _ _ prx hpr
  refine ⟨(by show 0 ≤ sizeLine; decide), fun pp npp => ?_⟩
  obtain ⟨H8, e8, s78, hpp⟩ := fresh (.lst ([] : List V)) npp
  rw [e8]
  have ppx : pp ≠ x := fun z => by rw [z, xH7] at npp; cases npp
  refine ⟨_, rfl, x, T.C_Shape, dx, _, rfl, s78 _ _ xH7, T.cl_Shape, T.na_Shape_powers, (by show 6 < 1000; decide), ?_⟩
  obtain ⟨H9, eH9, xH9, fH9⟩ := stp H8 (.ins T.C_Shape dx [("size", .int (2 ^ d)), ("depth", .int (d : Nat)), ("wide", .int (w : Nat)), ("grid", .ref pg), ("left", .ref pl), ("right", .ref pr), ("powers", .ref pp)])
  rw [show upd H8 x (.ins T.C_Shape dx (putF (Str.ofString "powers") (V.ref pp) [("size", .int (2 ^ d)), ("depth", .int (d : Nat)), ("wide", .int (w : Nat)), ("grid", .ref pg), ("left", .ref pl), ("right", .ref pr)])) = H9 from eH9]
  have F59 : ∀ c o, c ≠ x → H5 c = some o → H9 c = some o := fun c o hc h => fH9 _ _ hc (s78 _ _ (fH7 _ _ hc (s56 _ _ h)))
  have F39 : ∀ c o, c ≠ x → H3 c = some o → H9 c = some o := fun c o hc h => F59 _ _ hc (fH5 _ _ hc (s34 _ _ h))
  have F19 : ∀ c o, c ≠ x → H1 c = some o → H9 c = some o := fun c o hc h => F39 _ _ hc (fH3 _ _ hc (s12 _ _ h))
  have s09 : Same H0 H9 := fun c o h => F19 c o (fun z => by rw [z, nx] at h; cases h) (s01 _ _ h)
  have s03 : Same H0 H3 := fun c o h => fH3 c o (fun z => by rw [z, nx] at h; cases h) (s12 _ _ (s01 _ _ h))
  have s05 : Same H0 H5 := fun c o h => fH5 c o (fun z => by rw [z, nx] at h; cases h) (s34 _ _ (s03 _ _ h))
  have s07 : Same H0 H7 := fun c o h => fH7 c o (fun z => by rw [z, nx] at h; cases h) (s56 _ _ (s05 _ _ h))
  have agf : ∀ a ∈ ag, H1 a = none ∧ a ≠ x ∧ a ≠ pg ∧ H3 a ≠ none ∧ H5 a ≠ none ∧ H7 a ≠ none := fun a ha => by
    obtain ⟨i, hi⟩ := List.mem_iff_getElem?.mp ha
    obtain ⟨a1, a2, a3⟩ := hRg.2 i a hi
    have ax : a ≠ x := fun z => by rw [z, hx1'] at a1; cases a1
    have h3 := fH3 _ _ ax a3
    have h5 := fH5 _ _ ax (s34 _ _ h3)
    have h7 := fH7 _ _ ax (s56 _ _ h5)
    exact ⟨a1, ax, a2, (by rw [h3]; exact fun z => nomatch z), (by rw [h5]; exact fun z => nomatch z), (by rw [h7]; exact fun z => nomatch z)⟩
  have alf : ∀ a ∈ al, H3 a = none ∧ a ≠ x ∧ a ≠ pl ∧ H5 a ≠ none ∧ H7 a ≠ none := fun a ha => by
    obtain ⟨i, hi⟩ := List.mem_iff_getElem?.mp ha
    obtain ⟨a1, a2, a3⟩ := hRl.2 i a hi
    have ax : a ≠ x := fun z => by rw [z, xH3] at a1; cases a1
    have h5 := fH5 _ _ ax a3
    have h7 := fH7 _ _ ax (s56 _ _ h5)
    exact ⟨a1, ax, a2, (by rw [h5]; exact fun z => nomatch z), (by rw [h7]; exact fun z => nomatch z)⟩
  have arf : ∀ a ∈ ar, H5 a = none ∧ a ≠ x ∧ a ≠ pr ∧ H7 a ≠ none := fun a ha => by
    obtain ⟨i, hi⟩ := List.mem_iff_getElem?.mp ha
    obtain ⟨a1, a2, a3⟩ := hRr.2 i a hi
    have ax : a ≠ x := fun z => by rw [z, xH5] at a1; cases a1
    have h7 := fH7 _ _ ax a3
    exact ⟨a1, ax, a2, (by rw [h7]; exact fun z => nomatch z)⟩
  have pgl : pg ≠ pl := fun z => by rw [← z, hpg3] at npl; cases npl
  have pgr : pg ≠ pr := fun z => by rw [← z, hpg5] at npr; cases npr
  have plr : pl ≠ pr := fun z => by rw [← z, hpl5] at npr; cases npr
  have pgp : pg ≠ pp := fun z => by rw [← z, fH7 _ _ pgx (s56 _ _ hpg5)] at npp; cases npp
  have plp : pl ≠ pp := fun z => by rw [← z, fH7 _ _ plx (s56 _ _ hpl5)] at npp; cases npp
  have prp : pr ≠ pp := fun z => by rw [← z, hpr7] at npp; cases npp
  have hX : ShpX T.C_Shape H0 H9 x dx d rs.length w pg pl pr pp ag al ar (fun i j => M i j % 2 ^ d) dlt dlt [] := by
    refine { hx := xH9, hg := F39 _ _ pgx hpg3, hl := F59 _ _ plx hpl5, hr := fH9 _ _ prx (s78 _ _ hpr7), hp := fH9 _ _ ppx hpp, lg := lg, ll := ll, lr := lr, rg := ⟨hRg.1, fun i a ha => ?_⟩, rl := ⟨hRl.1, fun i a ha => ?_⟩, rr := ⟨hRr.1, fun i a ha => ?_⟩, nn := ?_, d1 := ?_, d2 := ?_, d3 := ?_, d4 := ?_ }
    · obtain ⟨a1, a2, a3⟩ := hRg.2 i a ha
      have := agf a (List.mem_iff_getElem?.mpr ⟨i, ha⟩)
      exact ⟨s01.free a1, a2, F39 _ _ this.2.1 (fH3 _ _ this.2.1 a3)⟩
    · obtain ⟨a1, a2, a3⟩ := hRl.2 i a ha
      have := alf a (List.mem_iff_getElem?.mpr ⟨i, ha⟩)
      exact ⟨s03.free a1, a2, F59 _ _ this.2.1 (fH5 _ _ this.2.1 a3)⟩
    · obtain ⟨a1, a2, a3⟩ := hRr.2 i a ha
      have := arf a (List.mem_iff_getElem?.mpr ⟨i, ha⟩)
      exact ⟨s05.free a1, a2, fH9 _ _ this.2.1 (s78 _ _ (fH7 _ _ this.2.1 a3))⟩
    · intro a ha
      simp only [List.mem_cons, List.not_mem_nil, or_false] at ha
      rcases ha with rfl | rfl | rfl | rfl | rfl
      · exact nx
      · exact s01.free npg
      · exact s03.free npl
      · exact s05.free npr
      · exact s07.free npp
    · simp only [List.nodup_cons, List.mem_cons, List.not_mem_nil, or_false, not_or, List.nodup_nil, not_false_eq_true, and_true]
      exact ⟨⟨pgx.symm, plx.symm, prx.symm, ppx.symm⟩, ⟨pgl, pgr, pgp⟩, ⟨plr, plp⟩, prp⟩
    · intro a ha hm
      simp only [List.mem_cons, List.not_mem_nil, or_false] at hm
      rcases ha with ha | ha | ha
      · obtain ⟨k1, k2, k3, k4, k5, k6⟩ := agf a ha
        rcases hm with rfl | rfl | rfl | rfl | rfl
        · exact k2 rfl
        · exact k3 rfl
        · exact k4 npl
        · exact k5 npr
        · exact k6 npp
      · obtain ⟨k1, k2, k3, k4, k5⟩ := alf a ha
        rcases hm with rfl | rfl | rfl | rfl | rfl
        · exact k2 rfl
        · rw [hpg3] at k1; cases k1
        · exact k3 rfl
        · exact k4 npr
        · exact k5 npp
      · obtain ⟨k1, k2, k3, k4⟩ := arf a ha
        rcases hm with rfl | rfl | rfl | rfl | rfl
        · exact k2 rfl
        · rw [hpg5] at k1; cases k1
        · rw [hpl5] at k1; cases k1
        · exact k3 rfl
        · exact k4 npp
    · intro a ha
      obtain ⟨k1, k2, k3, k4, k5, k6⟩ := agf a ha
      exact ⟨fun hm => k4 (alf a hm).1, fun hm => k5 (arf a hm).1⟩
    · intro a ha hm
      exact (alf a ha).2.2.2.1 (arf a hm).1
  have hp9 := F39 _ _ px hp3
  refine ⟨_, rfl, p, _, rfl, .inl (.inl (.inl hp9)), _, rfl, _, _, rfl, ?_⟩
  rw [List.length_map]
  refine ⟨_, rfl, by split <;> omega, by split <;> omega, ?_⟩
  rw [show (if ((w : Nat) : Int) < ((rs.length : Nat) : Int) then ((w : Nat) : Int) else ((rs.length : Nat) : Int)).toNat = min rs.length w by split <;> omega]
  refine for_range (lo := 0) (n := min rs.length w) (fun i σ HA => ∃ (ag al : List Addr) (G L R : Nat → Nat → Int) (pw : List Nat) (v4 : Option V), σ = [some (.ref x), some (.ref p), some (.int w), some (.int d), v4, none] ∧ Same H0 HA ∧ ShpX T.C_Shape H0 HA x dx d rs.length w pg pl pr pp ag al ar G L R pw ∧ SInv (2 ^ d) rs.length w M G L R ∧ Red (2 ^ d) rs.length w G ∧ Clr rs.length w G pw ∧ (∀ q ∈ pw, q < d) ∧ pw.length ≤ i ∧ (pw.length = i ∨ ∀ i' j, pw.length ≤ i' → i' < rs.length → pw.length ≤ j → j < w → (2 ^ d : Int) ∣ G i' j)) ⟨ag, al, _, dlt, dlt, [], none, rfl, s09, hX, SInv.start (fun i j _ _ => mod_sub), fun i j _ _ => mod_in hN, fun i j _ _ h => absurd h (by simp), fun q hq => (nomatch hq), Nat.le_refl _, .inl rfl⟩ ?_ ?_
  · rintro i σ HA hi ⟨ag, al, G, L, R, pw, v4, rfl, sA, hXA, hSA, hRA, hCA, hlt, hle, hor⟩
    rw [Int.zero_add]
    refine ⟨_, rfl, x, T.C_Shape, dx, _, _, rfl, hXA.hx, T.cl_Shape, T.na_Shape_powers, rfl, pp, _, rfl, .inl (.inl (.inl hXA.hp)), _, rfl, rfl, _, rfl, ?_⟩
    rw [nV_len]
    by_cases c : pw.length = i
    · subst c
      refine iteET rfl ?_
      refine ⟨_, rfl, x, dx, _, rfl, hXA.hx, rfl, _, rfl, H0, x, dx, d, rs.length, w, pg, pl, pr, pp, ag, al, ar, M, G, L, R, pw, rfl, sA, hXA, hSA, hRA, hCA, by omega, by omega, hn, hw, d1, d2, fun HB sB hz => ?_, fun HB ag' al' G' L' R' q0 sB hXB hSB hRB hCB hq => ?_⟩
      · exact ⟨ag, al, G, L, R, pw, _, rfl, sA.trans sB, hXA.same sB, hSA, hRA, hCA, hlt, by omega, .inr hz⟩
      · refine ⟨ag', al', G', L', R', pw ++ [q0], _, rfl, sB, hXB, hSB, hRB, hCB, fun q hq' => ?_, by rw [List.length_append]; exact Nat.le_refl _, .inl (by rw [List.length_append]; rfl)⟩
        rcases List.mem_append.mp hq' with h | h
        · exact hlt q h
        · rw [List.mem_singleton.mp h]; exact hq
    · refine iteEF (by omega) ?_
      refine ⟨ag, al, G, L, R, pw, _, rfl, sA, hXA, hSA, hRA, hCA, hlt, by omega, .inr ?_⟩
      rcases hor with h | h
      · exact absurd h c
      · exact h
  · rintro σ HA ⟨ag, al, G, L, R, pw, v4, rfl, sA, hXA, hSA, hRA, hCA, hlt, hle, hor⟩
    refine q HA G L R pw sA ⟨dx, pg, pl, pr, pp, ag, al, ar, hXA⟩ hSA (clr_diag (by omega) (by omega) hCA fun i' j h1 h2 h3 h4 => ?_) hlt
    rcases hor with h | h
    · omega
    · exact h i' j h1 h2 h3 h4
def sp_Shape_kernel_size (C : Addr) : Sp := fun vs H Q _ => ∃ (H0 : Hp) (x : Addr) (d n w : Nat) (G L R : Nat → Nat → Int) (pw : List Nat), vs = [.ref x] ∧ ShpAt C H0 H x d n w G L R pw ∧ pw.length ≤ w ∧ w ≤ 100 ∧ d ≤ 24 ∧ (∀ q ∈ pw, q < d) ∧ Q (.int ((2 ^ (pw.sum + d * (w - pw.length)) : Nat) : Int)) H
theorem G_Shape_kernel_size (T : Top K mg) : FnOk P w K mg base CX0 1 T.f_Shape_kernel_size T.fd_Shape_kernel_size ["self"] (sp_Shape_kernel_size T.C_Shape) := by
  refine T.F_Shape_kernel_size.ok sc_Shape_kernel_size (fun vs H Q E h => by obtain ⟨H0, x, d, n, w, G, L, R, pw, rfl, _⟩ := h; rfl) (fun cdv A outer s H vs Q E hr h => ?_)
  obtain ⟨H0, x, d, n, w, G, L, R, pw, rfl, ⟨dx, pg, pl, pr, pp, ag, al, ar, hX⟩, kw, hw, hd, hlt, q⟩ := h
  refine ⟨_, PSs.nox (pss_one (ps_ret (pe_op op_shl pe_int (pe_op op_add (pe_callB (k_sum K rfl rfl) (by rfl) T.n_sum (by decide +kernel) (pa_cons (pe_fld (pv 0) rfl) pa_nil)) (pe_op op_mul (pe_fld (pv 0) rfl) (pe_op op_sub (pe_fld (pv 0) rfl) (pe_callB (k_len K rfl) (by rfl) T.n_len (by decide +kernel) (pa_cons (pe_fld (pv 0) rfl) pa_nil)))))))), ?_⟩
  have hsum : pw.sum ≤ 100 * 24 := by
    have key : ∀ l : List Nat, (∀ q ∈ l, q < d) → l.sum ≤ l.length * 24 := fun l hl => by
      induction l with
      | nil => exact Nat.le_refl _
      | cons y r ih =>
        have := ih fun q hq => hl q (List.mem_cons_of_mem _ hq)
        have := hl y List.mem_cons_self
        rw [List.sum_cons, List.length_cons, Nat.succ_mul]
        omega
    have := key pw hlt
    have : pw.length * 24 ≤ 100 * 24 := Nat.mul_le_mul_right 24 (by omega)
    omega
  have hdw : d * (w - pw.length) ≤ 24 * 100 := Nat.mul_le_mul hd (by omega)
  have hcast : (pw.map fun i : Nat => (i : Int)).sum = ((pw.sum : Nat) : Int) := by
    have key : ∀ l : List Nat, (l.map fun i : Nat => (i : Int)).sum = ((l.sum : Nat) : Int) := fun l => by
      induction l with
      | nil => rfl
      | cons y r ih => rw [List.map_cons, List.sum_cons, List.sum_cons, ih, Int.natCast_add]
    exact key pw
  have hp : H pp = some (.lst ((pw.map fun i : Nat => (i : Int)).map V.int)) := by rw [hX.hp]; unfold nV; rw [List.map_map]; rfl
  refine ⟨_, rfl, x, T.C_Shape, dx, _, _, rfl, hX.hx, T.cl_Shape, T.na_Shape_powers, rfl, ?_⟩
  refine ⟨pp, _, rfl, .inl (.inl hp), _, rfl, x, T.C_Shape, dx, _, _, rfl, hX.hx, T.cl_Shape, T.na_Shape_depth, rfl, _, rfl, x, T.C_Shape, dx, _, _, rfl, hX.hx, T.cl_Shape, T.na_Shape_wide, rfl, _, rfl, x, T.C_Shape, dx, _, _, rfl, hX.hx, T.cl_Shape, T.na_Shape_powers, rfl, pp, _, rfl, .inl (.inl (.inl hX.hp)), _, _, rfl, rfl, _, _, rfl, rfl, .inl ⟨by omega, by omega⟩, _, _, rfl, rfl, ?_⟩
  dsimp only
  rw [hcast, nV_len]
  have e1 : ((d : Nat) : Int) * (((w : Nat) : Int) - ((pw.length : Nat) : Int)) = ((d * (w - pw.length) : Nat) : Int) := by rw [Int.natCast_mul]; congr 1; omega
  rw [e1, ← Int.natCast_add]
  refine ⟨_, _, rfl, rfl, ⟨by omega, by omega, by decide⟩, ?_⟩
  dsimp only
  rw [Int.toNat_natCast, Int.one_mul]
  rw [Int.natCast_pow] at q
  exact q
end
end My

namespace My
open PySem PySem.Spec PyProof.Rows L2 Pre
/-! ### firsts that return -/
theorem mv_next {N : Int} {ws : List Int} {f : Nat → Int} {n : Nat} (hN : 0 < N) (h : Mv N ws f n) : Mv N ws (redP N ws (0 :: (List.range ws.length).map f)) (n + 1) := mv_red hN fun r hr i => by
  rw [List.length_cons, List.length_map, List.length_range, sumN_front]
  have e : (sumN ws.length fun p => (0 :: (List.range ws.length).map f).getD (p + 1) 0 * r (i + (p + 1))) = sumN ws.length fun p => f p * r (i + 1 + p) := sumN_congr fun p hp => by
    rw [List.getD_cons_succ, row_getD hp, show i + (p + 1) = i + 1 + p by omega]
  rw [e]
  show N ∣ (0 : Int) * r (i + 0) + _ - _
  rw [Int.zero_mul, Int.zero_add, show i + (n + 1) = i + 1 + n by omega]
  exact h r hr (i + 1)
theorem mv_less {N : Int} {ws : List Int} {f : Nat → Int} {n k : Nat} (h : Mv N ws f (n + k)) (hk : k < ws.length) (r : Nat → Int) (hr : Fol N ws r) : N ∣ (sumN ws.length fun j => (f j - dlt k j) * r j) - (r (n + k) - r k) := by
  have e : (sumN ws.length fun j => (f j - dlt k j) * r j) = (sumN ws.length fun j => f j * r (0 + j)) - r k := by
    have e1 : (sumN ws.length fun j => dlt k j * r j) = r k := by
      rw [sumN_only hk fun j _ hj => by unfold dlt; rw [if_neg fun z => hj z.symm, Int.zero_mul]]
      unfold dlt
      rw [if_pos rfl, Int.one_mul]
    rw [← e1, sumN_sub]
    exact sumN_congr fun j _ => by rw [Int.sub_mul, Nat.zero_add]
  rw [e, show ∀ a b c : Int, a - b - (c - b) = a - c from fun a b c => by omega]
  have := h r hr 0
  rwa [Nat.zero_add] at this
local macro_rules | `(tactic| walk_at "go") => `(tactic| repeat (first | (with_reducible first | refine iteT ?_ | refine iteF ?_ | refine iteNtt ?_ | refine iteNff ?_ | refine iteET (by omega) ?_ | refine iteEF (by omega) ?_ | refine iteENT (by omega) ?_ | refine iteENF (by omega) ?_ | refine iteDT (by omega) ?_ | refine iteDF (by omega) ?_ | refine iteNT (by omega) ?_ | refine iteNF (by omega) ?_) | refine ⟨_, rfl, ?_⟩ | refine ⟨_, _, rfl, rfl, ?_⟩ | refine ⟨_, _, rfl, ?_⟩ | refine ⟨rfl, ?_⟩ | refine .inl ⟨_, rfl, ?_⟩ | refine .inr ⟨_, rfl, ?_⟩))
local macro_rules | `(tactic| walk_at "b") => `(tactic| try dsimp (config := { proj := false, iota := false, eta := false, zeta := false }) only)
section
variable {P : Program} {w : World} {K : PySem.W.Frag} {mg : Str → Option Value} {base : Heap} [pf : Sup.PF P fileS]
def sp_returning (K : PySem.W.Frag) (CD CW CN : Addr) : Sp := fun vs H Q E => ∃ v u y : V, vs = [v, u, y] ∧
  ((∃ d : Nat, v = .int d ∧ 1 ≤ d ∧ d ≤ 24 ∧
    ((∃ (a : Addr) (ws : List Int), u = .ref a ∧ H a = some (.lst (ws.map V.int)) ∧ GoodR ws ∧
      ((∃ n : Nat, y = .int n ∧ 1 ≤ n ∧ n ≤ 10 ^ 18 ∧ ∀ H' k (M : Nat → Nat → Int), Same H H' → (∀ r : Nat → Int, Fol (2 ^ d) ws r → ∀ i, i < ws.length → (2 ^ d : Int) ∣ (sumN ws.length fun j => M i j * r j) - (r (n + i) - r i)) → Card (Ker (2 ^ d) ws.length ws.length M) (2 ^ k) → k ≤ d * ws.length → Q (.int ((2 ^ k : Nat) : Int)) H') ∨
        (NumV K H y 1 (some (10 ^ 18)) false ∧ ∀ H' dd, Same H H' → H' dd = none → E (.ref CN) (some dd) (upd H' dd (.xd [("value", y)]))))) ∨
      (BadR K H u ∧ ∀ H' dd, Same H H' → H' dd = none → E (.ref CW) (some dd) (upd H' dd (.xd [("value", u)]))))) ∨
   (NumV K H v 1 (some 24) false ∧ ∀ H' dd, Same H H' → H' dd = none → E (.ref CD) (some dd) (upd H' dd (.xd [("value", v)]))))
theorem G_returning (T : Top K mg) : FnOk P w K mg base (L2.CX P w) 6 T.f_returning T.fd_returning ["depth", "weights", "number"] (sp_returning K T.C_InvalidDepth T.C_InvalidWeights T.C_InvalidNumber) := by
  refine T.F_returning.ok (CX := L2.CX P w) sc_returning (fun vs H Q E h => by obtain ⟨v, u, y, rfl, _⟩ := h; rfl) (fun cdv A outer s H vs Q E hr h => ?_)
  obtain ⟨v, u, y, rfl, h⟩ := h
  refine ⟨_, (pss_cons (ps_expr (pe_call (G_check_depth (P := P) T) (hr.mono (by decide)) (by rfl) T.g_check_depth T.F_check_depth.kp T.b0_check_depth T.v0_check_depth (passes_call (takes_of rfl rfl rfl rfl) (fun _ _ _ _ h => h)) (pa_cons (pv 0) pa_nil)))
  (pss_cons (ps_expr (pe_call (G_check_rule (P := P) T) (hr.mono (by decide)) (by rfl) T.g_check_rule T.F_check_rule.kp T.b_check_rule .nil (passes_call (takes_of rfl rfl rfl rfl) (fun _ _ _ _ h => h)) (pa_cons (pv 1) pa_nil)))
  (pss_cons (ps_expr (pe_call (G_check_number (P := P) T) (hr.mono (by decide)) (by rfl) T.g_check_number T.F_check_number.kp T.b_check_number .nil (passes_call (takes_of rfl rfl rfl rfl) (fun _ _ _ _ h => h)) (pa_cons (pv 2) (pa_cons pe_int (pa_cons (pe_glob (v := .int 1000000000000000000) rfl T.m_MOST_PLACE ⟨_, rfl⟩) pa_nil)))))
  (pss_cons (ps_par3 (by rfl) sc_returning.nd (i := 5) (j := 6) (l := 7) rfl rfl rfl (by decide) (by decide) (by decide) rfl rfl rfl (pa_cons (pe_op op_shl pe_int (pv 0)) (pa_cons (pe_callB (k_len K rfl) (by rfl) T.n_len (by decide +kernel) (pa_cons (pv 1) pa_nil)) (pa_cons (pe_lst pa_nil) pa_nil))) (by rfl))
  (pss_cons (ps_set (i := 3) sc_returning.nd rfl (by first | exact Or.inl rfl | exact Or.inr rfl) (pe_call (G_moved_by (P := P) T) (hr.mono (by decide)) (by rfl) T.g_moved_by T.F_moved_by.kp T.b_moved_by .nil pass0 (pa_cons (pv 1) (pa_cons (pv 2) (pa_cons (pv 5) pa_nil)))))
  (pss_cons (ps_for (passes_of rfl) rfl (pi_range1 (by rfl) T.n_range (pa_cons (pv 6) pa_nil)) (pg_name (i := 4) sc_returning.nd rfl (by first | exact Or.inl rfl | exact Or.inr rfl))
    (pss_cons (ps_expr (pe_bm PySem.F.plainAttrs_list PySem.F.slot_list_append PySem.F.type_list_append mt_append (pv 7) (pa_cons (pe_lc (own := [("place", 8), ("share", 9)]) (g := gTup K 2 (gCons (gName 8) (gCons (gName 9) (gNil)))) (tt := tYes) (by rfl) sc_returning.nd (k_piE K rfl (by rfl) T.n_enumerate (pa_cons (pv 3) pa_nil)) (blkOk_by (own := [("place", 8), ("share", 9)]) (N := N_returning) (sc := defScope s_returning) (by decide +kernel)) (fun _ _ _ _ _ => (k_pgT K rfl (by rfl) (pgs_cons (pg_name (i := 8) sc_returning.nd rfl (by first | exact Or.inl rfl | exact Or.inr rfl)) (pgs_cons (pg_name (i := 9) sc_returning.nd rfl (by first | exact Or.inl rfl | exact Or.inr rfl)) pgs_nil)))) (fun _ _ _ _ _ => pts_nil) (fun _ _ _ _ _ => (pe_op op_sub (pv 9) (pe_callTy call_int1 (by rfl) T.n_int (by decide +kernel) (pa_cons (pe_cmpR op_eq (pv 8) (pv 4) (nomark _)) pa_nil))))) pa_nil)))
  (pss_one (ps_set (i := 3) sc_returning.nd rfl (by first | exact Or.inl rfl | exact Or.inr rfl) (pe_call (G_reduced (P := P) T) (hr.mono (by decide)) (by rfl) T.g_reduced T.F_reduced.kp T.b_reduced .nil pass0 (pa_cons (pv 1) (pa_cons (pe_lst (pa_cons pe_int (StX.pa_star (pv 3) pa_nil))) (pa_cons (pv 5) pa_nil))))))))
  (pss_one (ps_ret (pe_meth0 (pe_make T.mk_Shape (G_Shape___init__ (P := P) T) (hr.mono (by decide)) (by rfl) T.gc_Shape T.b_Shape___init__ .nil pass0 (pa_cons (pv 7) (pa_cons (pv 6) (pa_cons (pv 0) pa_nil)))) T.cl_Shape T.me_Shape_kernel_size (G_Shape_kernel_size (P := P) T) (hr.mono (by decide)) T.b_Shape_kernel_size .nil pass0))))))))), ?_⟩
  have dok : ∀ {H : Hp} {d : Nat}, 1 ≤ d → d ≤ 24 → NumV K H (.int (d : Int)) 1 (some 24) true := fun d1 d2 => .inl ⟨_, rfl, (decide_eq_true ⟨by omega, fun j e => by cases e; omega⟩).symm⟩
  rcases h with ⟨d, rfl, d1, d2, ⟨a, ws, rfl, ha, gw, ⟨n, rfl, n1, n2, q⟩ | ⟨hy, q⟩⟩ | ⟨hu, q⟩⟩ | ⟨hv, q⟩
  · have hws := gw.1
    refine ⟨_, rfl, _, 24, true, rfl, dok d1 d2, fun _ => ?_, fun z => nomatch z⟩
    refine ⟨_, rfl, _, rfl, .inl ⟨a, ws, rfl, ha, gw, fun H1 s1 => ?_⟩⟩
    refine ⟨_, rfl, _, 1, some (10 ^ 18), true, rfl, .inl ⟨_, rfl, (decide_eq_true ⟨by omega, fun j e => by cases e; omega⟩).symm⟩, fun _ => ?_, fun z => nomatch z⟩
    have hpw : (0 : Int) < 2 ^ d := Int.pow_pos (by decide)
    have hpl := pow_le_pow2 d2
    refine ⟨_, rfl, _, _, rfl, rfl, ⟨by omega, by omega, by decide⟩, _, rfl, a, _, rfl, .inl (.inl (.inl (s1 _ _ ha))), (by show 0 ≤ sizeLine; decide), fun pr npr => ?_⟩
    obtain ⟨H2, e2, s2, hpr⟩ := fresh (.lst ([] : List V)) npr
    rw [e2]
    refine ⟨_, _, _, rfl, ?_⟩
    dsimp only
    rw [List.length_map, Int.one_mul, Int.toNat_natCast]
    refine ⟨_, rfl, _, rfl, _, rfl, a, ws, n, (2 ^ d : Int), rfl, s2 _ _ (s1 _ _ ha), gw, hpw, hpl, fun H3 p3 s3 np3 hP => ?_⟩
    have s03 := (s1.trans s2).trans s3
    have nprH : H pr = none := s1.free npr
    refine ⟨_, rfl, _, rfl, by omega, by omega, ?_⟩
    rw [Int.toNat_natCast]
    refine for_range (lo := 0) (n := ws.length) (fun i σ HA => ∃ (p3 : Addr) (rs : List Addr) (M : Nat → Nat → Int) (v4 : Option V), σ = [some (.int d), some (.ref a), some (.int n), some (.ref p3), v4, some (.int (2 ^ d)), some (.int (ws.length : Nat)), some (.ref pr), none, none] ∧ Same H HA ∧ PowAt (2 ^ d) ws p3 (n + i) HA ∧ p3 ≠ pr ∧ HA pr = some (.lst (rs.map V.ref)) ∧ rs.length = i ∧ (∀ k r, rs[k]? = some r → r ≠ pr ∧ HA r = some (.lst (rowZ ws.length (M k)))) ∧ ∀ k, k < i → ∀ r : Nat → Int, Fol (2 ^ d) ws r → (2 ^ d : Int) ∣ (sumN ws.length fun j => M k j * r j) - (r (n + k) - r k)) ⟨p3, [], fun _ _ => 0, none, rfl, s03, hP, (ne_of_none hpr np3).symm, s3 _ _ hpr, rfl, fun k r h => by simp at h, fun k hk => absurd hk (Nat.not_lt_zero k)⟩ ?_ ?_
    · rintro i σ HA hi ⟨p3, rs, M, v4, rfl, sA, ⟨f, hf, mf, rf⟩, p3r, hprA, hl, hrs, hM⟩
      rw [Int.zero_add]
      refine ⟨_, rfl, .inl ⟨rfl, _, .inl (.inl hprA)⟩, ?_⟩
      refine ⟨_, rfl, p3, _, rfl, .inl (.inl hf), fun D nD => ?_⟩
      refine lc_it (walk_enum (K := K) (a := p3) (xs := ((List.range ws.length).map f).map V.int)) (fun k H4 => Same HA H4 ∧ H4 D = some (.lst (rowZ k fun j => f j - dlt i j))) ⟨same_upd nD, upd_same⟩ (fun k H4 _ p => .inl (.inl (p.1 _ _ hf))) ?_ ?_
      · rintro k z H4 H5 hk ⟨s4, hD⟩ ⟨T1, x1, y1, rfl, nT, rfl, ex, ey⟩
        dsimp only at ex ey
        cases ex
        have hk' : k < ws.length := by rw [List.length_map, List.length_map, List.length_range] at hk; exact hk
        rw [← rowZ_ints, rowZ_get _ hk'] at ey
        cases ey
        have sT := same_upd (o := .tup [V.int (k : Int), V.int (f k)]) nT
        have hD5 := sT _ _ hD
        have s5 := s4.trans sT
        refine ⟨T1, _, rfl, .inl (.inl upd_same), rfl, _, _, rfl, _, _, rfl, rfl, ?_⟩
        refine ⟨rfl, ?_⟩
        unfold tYes
        refine iteT ?_
        refine ⟨_, rfl, _, rfl, _, rfl, rfl, .inr ⟨_, rfl, _, _, rfl, rfl, ?_⟩⟩
        refine ⟨_, hD5, by rw [rowZ_len]; exact small4 (by omega), same_over nD s5, ?_⟩
        rw [upd_same]
        have e : (if decide (V.int (k : Int) = V.int (i : Int)) = true then (1 : Int) else 0) = dlt i k := by
          unfold dlt
          by_cases c : i = k
          · subst c
            rw [decide_eq_true rfl, if_pos rfl, if_pos rfl]
          · rw [decide_eq_false fun z => c (by have := V.int.inj z; omega), if_neg (by decide), if_neg c]
        dsimp only
        rw [e]
        exact congrArg (fun l => some (HO.lst l)) (rowZ_snoc k fun j => f j - dlt i j)
      · rintro H4 ⟨s4, hD⟩
        rw [List.length_map, List.length_map, List.length_range] at hD
        have hpr4 := s4 _ _ hprA
        have Dpr : D ≠ pr := (ne_of_none hprA nD).symm
        refine ⟨pr, _, _, rfl, rfl, hpr4, by rw [List.length_map]; exact small4 (by omega), ?_⟩
        obtain ⟨H5, e5⟩ : ∃ H5, upd H4 pr (.lst (rs.map V.ref ++ [V.ref D])) = H5 := ⟨_, rfl⟩
        rw [e5]
        have f5 : ∀ c o, c ≠ pr → H4 c = some o → H5 c = some o := fun c o hc h => by rw [← e5, upd_ne hc]; exact h
        have hpr5 : H5 pr = some (.lst ((rs ++ [D]).map V.ref)) := by rw [← e5, upd_same, List.map_append]; rfl
        have s05 : Same H H5 := fun c o h => f5 c o (fun z => by rw [z, nprH] at h; cases h) (s4 _ _ (sA _ _ h))
        have hf5 := f5 _ _ p3r (s4 _ _ hf)
        refine ⟨_, rfl, _, rfl, p3, _, rfl, .inr (.inl (.inl hf5)), by rw [sizeLine_eq]; simp only [List.length_cons, List.length_append, List.length_map, List.length_range, List.length_nil]; omega, fun p10 np10 => ?_⟩
        obtain ⟨H6, e6, s6, hp10⟩ := fresh (.lst (V.int 0 :: (((List.range ws.length).map f).map V.int ++ []))) np10
        rw [e6]
        have hq : H6 p10 = some (.lst (((0 : Int) :: (List.range ws.length).map f).map V.int)) := by rw [hp10, List.append_nil]; rfl
        refine ⟨_, rfl, a, p10, ws, _, (2 ^ d : Int), rfl, s6 _ _ (s05 _ _ ha), hq, gw, by rw [List.length_cons, List.length_map, List.length_range]; omega, hpw, hpl, fun H7 p4 s7 np4 hp4 => ?_⟩
        rw [rowZ_ints] at hp4
        have s57 := s6.trans s7
        refine ⟨p4, rs ++ [D], fun k j => if k = i then f j - dlt i j else M k j, _, rfl, s05.trans s57, ⟨_, hp4, mv_next hpw mf, red_range hpw _⟩, fun z => ?_, s57 _ _ hpr5, by rw [List.length_append, hl]; rfl, fun k r hr => ?_, fun k hk r hr => ?_⟩
        · rw [z, s6 _ _ hpr5] at np4
          cases np4
        · by_cases c : k < rs.length
          · rw [List.getElem?_append_left c] at hr
            obtain ⟨h1, h2⟩ := hrs k r hr
            refine ⟨h1, ?_⟩
            rw [s57 _ _ (f5 _ _ h1 (s4 _ _ h2))]
            exact congrArg (fun l => some (HO.lst l)) (rowZ_congr fun j hj => (if_neg (by omega)).symm)
          · rw [List.getElem?_append_right (by omega)] at hr
            have : k - rs.length = 0 := by
              have := (List.getElem?_eq_some_iff.mp hr).1
              rw [List.length_singleton] at this
              omega
            rw [this, List.getElem?_cons_zero] at hr
            cases hr
            refine ⟨Dpr, ?_⟩
            rw [s57 _ _ (f5 _ _ Dpr hD)]
            exact congrArg (fun l => some (HO.lst l)) (rowZ_congr fun j hj => (if_pos (by omega)).symm)
        · by_cases c : k = i
          · rw [sumN_congr (g := fun j => (f j - dlt i j) * r j) fun j _ => congrArg (· * r j) (if_pos c), c]
            exact mv_less mf hi r hr
          · rw [sumN_congr (g := fun j => M k j * r j) fun j _ => congrArg (· * r j) (if_neg c)]
            exact hM k (by omega) r hr
    · rintro σ HA ⟨p3, rs, M, v4, rfl, sA, hP, p3r, hprA, hl, hrs, hM⟩
      refine ⟨_, rfl, _, rfl, _, rfl, fun x dx nx ndx dxx => ?_⟩
      have sx : Same HA (upd (upd HA dx (.own x)) x (.ins T.C_Shape dx [])) := fun c o h => by
        have c1 : c ≠ x := fun z => (by rw [z, nx] at h; cases h)
        have c2 : c ≠ dx := fun z => (by rw [z, ndx] at h; cases h)
        rw [upd_ne c1, upd_ne c2]
        exact h
      refine ⟨HA, x, dx, pr, rs, d, ws.length, M, rfl, sx, nx, upd_same, sx _ _ hprA, fun z => (by rw [← z, hprA] at nx; cases nx), fun k r hr => ?_, by omega, by omega, d1, d2, fun HB G L R pw sB hSh hSI hDg hlt => ?_⟩
      · obtain ⟨h1, h2⟩ := hrs k r hr
        exact ⟨fun z => (by rw [z, nx] at h2; cases h2), sx _ _ h2⟩
      rw [hl] at hSh hSI hDg
      obtain ⟨dx', pg, pl, pr', pp, ag, al, ar, hX⟩ := id hSh
      refine ⟨rfl, x, _, _, rfl, hX.hx, rfl, HA, x, d, ws.length, ws.length, G, L, R, pw, rfl, hSh, hDg.2.1, by omega, d2, hlt, ?_⟩
      obtain ⟨a', hc, _⟩ := ker_some hpw ws.length ws.length M
      have e := ker_same hpw hSI hc (ker_diag hDg fun q hq => Nat.le_of_lt (hlt q hq))
      rw [e] at hc
      refine q HB _ M (sA.trans sB) (fun r hr i hi => hM i hi r hr) hc ?_
      have key : ∀ l : List Nat, (∀ q ∈ l, q < d) → l.sum ≤ d * l.length := fun l hl => by
        induction l with
        | nil => exact Nat.zero_le _
        | cons y r ih =>
          have := ih fun q hq => hl q (List.mem_cons_of_mem _ hq)
          have := hl y List.mem_cons_self
          rw [List.sum_cons, List.length_cons, Nat.mul_succ]
          omega
      have h1 := key pw hlt
      have h2 : d * pw.length + d * (ws.length - pw.length) = d * ws.length := by rw [← Nat.mul_add]; congr 1; have := hDg.2.1; omega
      omega
  · refine ⟨_, rfl, _, 24, true, rfl, dok d1 d2, fun _ => ?_, fun z => nomatch z⟩
    refine ⟨_, rfl, _, rfl, .inl ⟨a, ws, rfl, ha, gw, fun H1 s1 => ?_⟩⟩
    exact ⟨_, rfl, _, 1, some (10 ^ 18), false, rfl, hy.same s1, (fun z => nomatch z), fun _ dd nd => q _ dd s1 nd⟩
  · refine ⟨_, rfl, _, 24, true, rfl, dok d1 d2, fun _ => ?_, fun z => nomatch z⟩
    exact ⟨_, rfl, _, rfl, .inr ⟨hu, q⟩⟩
  · exact ⟨_, rfl, _, 24, false, rfl, hv, (fun z => nomatch z), fun _ dd nd => q H dd (Same.refl _) nd⟩
end
end My

namespace My
open PySem PySem.Spec PyProof.Rows L2 Pre
/-! ### firsts that return: what is caught -/
local macro_rules | `(tactic| walk_at "go") => `(tactic| repeat (first | (with_reducible first | refine iteT ?_ | refine iteF ?_ | refine iteNtt ?_ | refine iteNff ?_ | refine iteET (by omega) ?_ | refine iteEF (by omega) ?_ | refine iteENT (by omega) ?_ | refine iteENF (by omega) ?_ | refine iteDT (by omega) ?_ | refine iteDF (by omega) ?_ | refine iteNT (by omega) ?_ | refine iteNF (by omega) ?_) | refine ⟨_, rfl, ?_⟩ | refine ⟨_, _, rfl, rfl, ?_⟩ | refine ⟨_, _, rfl, ?_⟩ | refine ⟨rfl, ?_⟩ | refine .inl ⟨_, rfl, ?_⟩ | refine .inr ⟨_, rfl, ?_⟩))
local macro_rules | `(tactic| walk_at "b") => `(tactic| try dsimp (config := { proj := false, iota := false, eta := false, zeta := false }) only)
section
variable {P : Program} {w : World} {K : PySem.W.Frag} {mg : Str → Option Value} {base : Heap} [pf : Sup.PF P fileS]
/-- which of three is wrong first -/
def Bad3 (K : PySem.W.Frag) (H : Hp) (x y z bv : V) (tag : Str) : Prop :=
  (tag = "depth" ∧ bv = x ∧ NumV K H x 1 (some 24) false) ∨ ∃ d : Nat, x = .int d ∧ 1 ≤ d ∧ d ≤ 24 ∧
    ((tag = "weights" ∧ bv = y ∧ BadR K H y) ∨ ∃ (b : Addr) (ws : List Int), y = .ref b ∧ H b = some (.lst (ws.map V.int)) ∧ GoodR ws ∧ tag = "number" ∧ bv = z ∧ NumV K H z 1 (some (10 ^ 18)) false)
def sp_law_caught (K : PySem.W.Frag) : Sp := fun vs H Q _ => ∃ (a : Addr) (x y z bv : V) (tag t : Str), vs = [.ref a] ∧ H a = some (.lst [x, y, z]) ∧ Shw K H bv t ∧ Bad3 K H x y z bv tag ∧
  ∀ H' p, Same H H' → H p = none → H' p = some (.lst [.str tag, .str t]) → Q (.ref p) H'
theorem G_law_caught (T : Top K mg) : FnG P w K mg base CX0 7 T.f_law_caught T.fd_law_caught ["_law_given"] (sp_law_caught K) := by
  refine FnG.body T.F_law_caught sc_law_caught (fun vs H Q E h => by obtain ⟨a, x, y, z, bv, tag, t, rfl, _⟩ := h; rfl) (fun cdv A outer s H vs Q E gd hr h => ?_)
  obtain ⟨a, x, y, z, bv, tag, t, rfl, ha, hS, hc, q⟩ := h
  refine ⟨_, PSs.nox (pss_cons (ps_set (i := 1) sc_law_caught.nd rfl (by first | exact Or.inl rfl | exact Or.inr rfl) pe_non)
  (pss_cons (ps_try_keep (i := 2) rfl rfl rfl sc_law_caught.nd rfl rfl takes_none5 (fun W pn xe tk po => (pss_one (ps_expr (pe_callS (G_returning (P := P) T) (hr.mono (by decide)) (by rfl) T.g_returning T.F_returning.kp T.b_returning (fun σ => passAt tk σ) (pa_cons (pe_ix (k_ixL K rfl) (pv 0) pe_int (fun _ _ => rfl)) (pa_cons (pe_ix (k_ixL K rfl) (pv 0) pe_int (fun _ _ => rfl)) (pa_cons (pe_ix (k_ixL K rfl) (pv 0) pe_int (fun _ _ => rfl)) pa_nil)))))))
    (HdsAs.cons ⟨by rfl, by decide, .inl T.gc_SoundError⟩ (fun a oe cls d pn hz hf => (pss_one (ps_set (i := 1) sc_law_caught.nd rfl (by first | exact Or.inl rfl | exact Or.inr rfl) (pv 2)))) HdsAs.nil))
  (pss_cons (ps_set (i := 3) sc_law_caught.nd rfl (by first | exact Or.inl rfl | exact Or.inr rfl) (pe_lst (pa_cons (pe_callB (k_isiE K rfl) (by rfl) T.n_isinstance (by decide +kernel) (pa_cons (pv 1) (pa_cons (pe_glob (v := .ref T.C_InvalidDepth) rfl T.gc_InvalidDepth rfl) pa_nil))) (pa_cons (pe_callB (k_isiE K rfl) (by rfl) T.n_isinstance (by decide +kernel) (pa_cons (pv 1) (pa_cons (pe_glob (v := .ref T.C_InvalidWeights) rfl T.gc_InvalidWeights rfl) pa_nil))) (pa_cons (pe_callB (k_isiE K rfl) (by rfl) T.n_isinstance (by decide +kernel) (pa_cons (pv 1) (pa_cons (pe_glob (v := .ref T.C_InvalidNumber) rfl T.gc_InvalidNumber rfl) pa_nil))) (pa_cons pe_bl pa_nil))))))
  (pss_one (ps_ret (pe_lst (pa_cons (pe_ix (k_ixL K rfl) (pe_lst (pa_cons pe_str (pa_cons pe_str (pa_cons pe_str (pa_cons pe_str pa_nil))))) (pe_bm PySem.F.plainAttrs_list PySem.F.slot_list_index PySem.F.type_list_index (k_index K rfl) (pv 3) (pa_cons pe_bl pa_nil)) (fun _ _ => rfl)) (pa_cons (pe_ifExp (pt_cmpR op_isN (pv 1) pe_non (nomark _)) pe_non (pe_callB (k_reprX K rfl gd (hu65 hr)) (by rfl) T.n_repr (by decide +kernel) (pa_cons (pe_xfK (pv 1)) pa_nil))) pa_nil)))))))), ?_⟩
  have no0 : ∀ (m : Nat) (z' : V), m < 0 → [V.bl true, .bl false, .bl false, .bl true][m]? = some z' → eqV z' (.bl true) = false := fun m z' h e =>
    match m, h, e with
    | m + 0, h, _ => absurd h (by omega)
  have no1 : ∀ (m : Nat) (z' : V), m < 1 → [V.bl false, .bl true, .bl false, .bl true][m]? = some z' → eqV z' (.bl true) = false := fun m z' h e =>
    match m, h, e with
    | 0, _, e => by cases e; rfl
    | m + 1, h, _ => absurd h (by omega)
  have no2 : ∀ (m : Nat) (z' : V), m < 2 → [V.bl false, .bl false, .bl true, .bl true][m]? = some z' → eqV z' (.bl true) = false := fun m z' h e =>
    match m, h, e with
    | 0, _, e => by cases e; rfl
    | 1, _, e => by cases e; rfl
    | m + 2, h, _ => absurd h (by omega)
  refine ⟨_, rfl, a, _, _, _, rfl, rfl, .inl (.inl ha), atI_nat (j := 0) rfl, _, rfl, a, _, _, _, rfl, rfl, .inl (.inl ha), atI_nat (j := 1) rfl, _, rfl, a, _, _, _, rfl, rfl, .inl (.inl ha), atI_nat (j := 2) rfl, _, _, _, rfl, ?_⟩
  rcases hc with ⟨rfl, rfl, hx⟩ | ⟨d, rfl, d1, d2, ⟨rfl, rfl, hy⟩ | ⟨b, ws, rfl, hb, gw, rfl, rfl, hz⟩⟩
  · refine .inr ⟨hx, fun H1 dd s1 nd => ?_⟩
    refine ⟨true, T.em_InvalidDepth_SoundError, fun _ ae nae => ?_, fun z => nomatch z⟩
    have hdd : upd (upd H1 dd (.xd [(Str.ofString "value", bv)])) ae (ExK (.ref T.C_InvalidDepth) (some dd) ae) dd = some (.xd [(Str.ofString "value", bv)]) := by
      rw [upd_ne (ne_of_none upd_same nae), upd_same]
    have hae : upd (upd H1 dd (.xd [(Str.ofString "value", bv)])) ae (ExK (.ref T.C_InvalidDepth) (some dd) ae) ae = some (ExK (.ref T.C_InvalidDepth) (some dd) ae) := upd_same
    have s2 := (s1.trans (same_upd (o := .xd [(Str.ofString "value", bv)]) nd)).trans (same_upd (o := ExK (.ref T.C_InvalidDepth) (some dd) ae) nae)
    refine ⟨_, rfl, _, rfl, .inr ⟨ae, _, dd, _, _, _, _, rfl, hae, hdd, T.ei_InvalidDepth, .own _, T.ki_InvalidDepth_InvalidDepth, _, rfl, .inr ⟨ae, _, dd, _, _, _, _, rfl, hae, hdd, T.ei_InvalidDepth, .own _, T.ki_InvalidDepth_InvalidWeights, _, rfl, .inr ⟨ae, _, dd, _, _, _, _, rfl, hae, hdd, T.ei_InvalidDepth, .own _, T.ki_InvalidDepth_InvalidNumber, (by show 4 ≤ sizeLine; decide), fun L3 nL3 => ?_⟩⟩⟩⟩
    obtain ⟨H5, e5, s5, hL3⟩ := fresh (.lst [V.bl true, .bl false, .bl false, .bl true]) nL3
    rw [e5]
    refine ⟨(by show 4 ≤ sizeLine; decide), fun M nM => ?_⟩
    obtain ⟨H6, e6, s6, hM⟩ := fresh (.lst [V.str (Str.ofString "depth"), .str (Str.ofString "weights"), .str (Str.ofString "number"), .str (Str.ofString "none")]) nM
    rw [e6]
    refine ⟨_, rfl, .inl ⟨rfl, _, .inl (.inl (s6 _ _ hL3))⟩, L3, _, .bl true, 0, .bl true, rfl, rfl, .inl (.inl (s6 _ _ hL3)), rfl, rfl, rfl, rfl, no0, M, _, _, _, rfl, rfl, .inl (.inl hM), atI_nat (j := 0) rfl, ?_⟩
    have s26 := s5.trans s6
    have s06 := s2.trans s26
    refine ⟨_, rfl, rfl, _, rfl, iteDF (fun z => nomatch z) ⟨_, rfl, ae, _, dd, _, bv, rfl, s26 _ _ hae, s26 _ _ hdd, T.er_InvalidDepth.xf, T.er_InvalidDepth.sup.nov, rfl, (hS.same s06).repr ⟨(by show 2 ≤ sizeLine; decide), fun p np => ?_⟩⟩⟩
    exact q _ p (s06.trans (same_upd np)) (s06.free np) upd_same
  · refine .inl ⟨d, rfl, d1, d2, .inr ⟨hy, fun H1 dd s1 nd => ?_⟩⟩
    refine ⟨true, T.em_InvalidWeights_SoundError, fun _ ae nae => ?_, fun z => nomatch z⟩
    have hdd : upd (upd H1 dd (.xd [(Str.ofString "value", bv)])) ae (ExK (.ref T.C_InvalidWeights) (some dd) ae) dd = some (.xd [(Str.ofString "value", bv)]) := by
      rw [upd_ne (ne_of_none upd_same nae), upd_same]
    have hae : upd (upd H1 dd (.xd [(Str.ofString "value", bv)])) ae (ExK (.ref T.C_InvalidWeights) (some dd) ae) ae = some (ExK (.ref T.C_InvalidWeights) (some dd) ae) := upd_same
    have s2 := (s1.trans (same_upd (o := .xd [(Str.ofString "value", bv)]) nd)).trans (same_upd (o := ExK (.ref T.C_InvalidWeights) (some dd) ae) nae)
    refine ⟨_, rfl, _, rfl, .inr ⟨ae, _, dd, _, _, _, _, rfl, hae, hdd, T.ei_InvalidWeights, .own _, T.ki_InvalidWeights_InvalidDepth, _, rfl, .inr ⟨ae, _, dd, _, _, _, _, rfl, hae, hdd, T.ei_InvalidWeights, .own _, T.ki_InvalidWeights_InvalidWeights, _, rfl, .inr ⟨ae, _, dd, _, _, _, _, rfl, hae, hdd, T.ei_InvalidWeights, .own _, T.ki_InvalidWeights_InvalidNumber, (by show 4 ≤ sizeLine; decide), fun L3 nL3 => ?_⟩⟩⟩⟩
    obtain ⟨H5, e5, s5, hL3⟩ := fresh (.lst [V.bl false, .bl true, .bl false, .bl true]) nL3
    rw [e5]
    refine ⟨(by show 4 ≤ sizeLine; decide), fun M nM => ?_⟩
    obtain ⟨H6, e6, s6, hM⟩ := fresh (.lst [V.str (Str.ofString "depth"), .str (Str.ofString "weights"), .str (Str.ofString "number"), .str (Str.ofString "none")]) nM
    rw [e6]
    refine ⟨_, rfl, .inl ⟨rfl, _, .inl (.inl (s6 _ _ hL3))⟩, L3, _, .bl true, 1, .bl true, rfl, rfl, .inl (.inl (s6 _ _ hL3)), rfl, rfl, rfl, rfl, no1, M, _, _, _, rfl, rfl, .inl (.inl hM), atI_nat (j := 1) rfl, ?_⟩
    have s26 := s5.trans s6
    have s06 := s2.trans s26
    refine ⟨_, rfl, rfl, _, rfl, iteDF (fun z => nomatch z) ⟨_, rfl, ae, _, dd, _, bv, rfl, s26 _ _ hae, s26 _ _ hdd, T.er_InvalidWeights.xf, T.er_InvalidWeights.sup.nov, rfl, (hS.same s06).repr ⟨(by show 2 ≤ sizeLine; decide), fun p np => ?_⟩⟩⟩
    exact q _ p (s06.trans (same_upd np)) (s06.free np) upd_same
  · refine .inl ⟨d, rfl, d1, d2, .inl ⟨b, ws, rfl, hb, gw, .inr ⟨hz, fun H1 dd s1 nd => ?_⟩⟩⟩
    refine ⟨true, T.em_InvalidNumber_SoundError, fun _ ae nae => ?_, fun z => nomatch z⟩
    have hdd : upd (upd H1 dd (.xd [(Str.ofString "value", bv)])) ae (ExK (.ref T.C_InvalidNumber) (some dd) ae) dd = some (.xd [(Str.ofString "value", bv)]) := by
      rw [upd_ne (ne_of_none upd_same nae), upd_same]
    have hae : upd (upd H1 dd (.xd [(Str.ofString "value", bv)])) ae (ExK (.ref T.C_InvalidNumber) (some dd) ae) ae = some (ExK (.ref T.C_InvalidNumber) (some dd) ae) := upd_same
    have s2 := (s1.trans (same_upd (o := .xd [(Str.ofString "value", bv)]) nd)).trans (same_upd (o := ExK (.ref T.C_InvalidNumber) (some dd) ae) nae)
    refine ⟨_, rfl, _, rfl, .inr ⟨ae, _, dd, _, _, _, _, rfl, hae, hdd, T.ei_InvalidNumber, .own _, T.ki_InvalidNumber_InvalidDepth, _, rfl, .inr ⟨ae, _, dd, _, _, _, _, rfl, hae, hdd, T.ei_InvalidNumber, .own _, T.ki_InvalidNumber_InvalidWeights, _, rfl, .inr ⟨ae, _, dd, _, _, _, _, rfl, hae, hdd, T.ei_InvalidNumber, .own _, T.ki_InvalidNumber_InvalidNumber, (by show 4 ≤ sizeLine; decide), fun L3 nL3 => ?_⟩⟩⟩⟩
    obtain ⟨H5, e5, s5, hL3⟩ := fresh (.lst [V.bl false, .bl false, .bl true, .bl true]) nL3
    rw [e5]
    refine ⟨(by show 4 ≤ sizeLine; decide), fun M nM => ?_⟩
    obtain ⟨H6, e6, s6, hM⟩ := fresh (.lst [V.str (Str.ofString "depth"), .str (Str.ofString "weights"), .str (Str.ofString "number"), .str (Str.ofString "none")]) nM
    rw [e6]
    refine ⟨_, rfl, .inl ⟨rfl, _, .inl (.inl (s6 _ _ hL3))⟩, L3, _, .bl true, 2, .bl true, rfl, rfl, .inl (.inl (s6 _ _ hL3)), rfl, rfl, rfl, rfl, no2, M, _, _, _, rfl, rfl, .inl (.inl hM), atI_nat (j := 2) rfl, ?_⟩
    have s26 := s5.trans s6
    have s06 := s2.trans s26
    refine ⟨_, rfl, rfl, _, rfl, iteDF (fun z => nomatch z) ⟨_, rfl, ae, _, dd, _, bv, rfl, s26 _ _ hae, s26 _ _ hdd, T.er_InvalidNumber.xf, T.er_InvalidNumber.sup.nov, rfl, (hS.same s06).repr ⟨(by show 2 ≤ sizeLine; decide), fun p np => ?_⟩⟩⟩
    exact q _ p (s06.trans (same_upd np)) (s06.free np) upd_same
end
end My

namespace My
open PySem PySem.Spec PyProof.Rows L2 Pre
/-! ### firsts that return: all that is refused -/
local macro_rules | `(tactic| walk_at "go") => `(tactic| repeat (first | (with_reducible first | refine iteT ?_ | refine iteF ?_ | refine iteNtt ?_ | refine iteNff ?_ | refine iteET (by omega) ?_ | refine iteEF (by omega) ?_ | refine iteENT (by omega) ?_ | refine iteENF (by omega) ?_ | refine iteDT (by omega) ?_ | refine iteDF (by omega) ?_ | refine iteNT (by omega) ?_ | refine iteNF (by omega) ?_) | refine ⟨_, rfl, ?_⟩ | refine ⟨_, _, rfl, rfl, ?_⟩ | refine ⟨_, _, rfl, ?_⟩ | refine ⟨rfl, ?_⟩ | refine .inl ⟨_, rfl, ?_⟩ | refine .inr ⟨_, rfl, ?_⟩))
local macro_rules | `(tactic| walk_at "b") => `(tactic| try dsimp (config := { proj := false, iota := false, eta := false, zeta := false }) only)
section
variable {P : Program} {w : World} {K : PySem.W.Frag} {mg : Str → Option Value} {base : Heap} [pf : Sup.PF P fileS]
def sp_law_refused : Sp := fun vs H Q _ => vs = [] ∧ ∀ H', Same H H' → Q (.bl true) H'
theorem G_law_refused (T : Top K mg) : FnG P w K mg base CX0 8 T.f_law_refused T.fd_law_refused [] sp_law_refused := by
  refine FnG.body T.F_law_refused sc_law_refused (fun vs H Q E h => by obtain ⟨rfl, _⟩ := h; rfl) (fun cdv A outer s H vs Q E gd hr h => ?_)
  obtain ⟨rfl, q⟩ := h
  refine ⟨_, PSs.nox (pss_cons (ps_for PassesOwn.never rfl (k_piL K rfl (pe_lst (pa_cons pe_non (pa_cons pe_int (pa_cons pe_int (pa_cons pe_bl (pa_cons pe_str pa_nil))))))) (pg_name (i := 0) sc_law_refused.nd rfl (by first | exact Or.inl rfl | exact Or.inr rfl))
    (pss_one (ps_if (pt_cmpR (k_neD K rfl hr.units) (pe_callG (G_law_caught (P := P) T) gd (hr.mono (by decide)) (by rfl) T.g_law_caught T.F_law_caught.kp T.b_law_caught .nil pass0 (pa_cons (pe_lst (pa_cons (pv 0) (pa_cons pe_non (pa_cons pe_non pa_nil)))) pa_nil)) (pe_lst (pa_cons pe_str (pa_cons (pe_callB (k_reprX K rfl gd (hu65 hr)) (by rfl) T.n_repr (by decide +kernel) (pa_cons (pv 0) pa_nil)) pa_nil))) (nomark _))
    (pss_one (ps_ret pe_bl))
    pss_nil)))
  (pss_cons (ps_for PassesOwn.never rfl (k_piL K rfl (pe_lst (pa_cons pe_non (pa_cons (pe_tup pa_nil) (pa_cons (pe_lst (pa_cons pe_bl pa_nil)) (pa_cons (pe_lst (pa_cons pe_int (pa_cons pe_non pa_nil))) (pa_cons (pe_lst (pa_cons pe_int pa_nil)) (pa_cons (pe_op op_rep (pe_lst (pa_cons pe_int pa_nil)) pe_int) pa_nil)))))))) (pg_name (i := 0) sc_law_refused.nd rfl (by first | exact Or.inl rfl | exact Or.inr rfl))
    (pss_one (ps_if (pt_cmpR (k_neD K rfl hr.units) (pe_callG (G_law_caught (P := P) T) gd (hr.mono (by decide)) (by rfl) T.g_law_caught T.F_law_caught.kp T.b_law_caught .nil pass0 (pa_cons (pe_lst (pa_cons pe_int (pa_cons (pv 0) (pa_cons pe_non pa_nil)))) pa_nil)) (pe_lst (pa_cons pe_str (pa_cons (pe_callB (k_reprX K rfl gd (hu65 hr)) (by rfl) T.n_repr (by decide +kernel) (pa_cons (pv 0) pa_nil)) pa_nil))) (nomark _))
    (pss_one (ps_ret pe_bl))
    pss_nil)))
  (pss_cons (ps_set (i := 1) sc_law_refused.nd rfl (by first | exact Or.inl rfl | exact Or.inr rfl) (pe_lst (pa_cons pe_non (pa_cons pe_int (pa_cons (pe_un un_neg pe_int) (pa_cons (pe_op op_add (pe_op op_powW pe_int pe_int) pe_int) (pa_cons pe_bl (pa_cons pe_str (pa_cons (pe_lst (pa_cons pe_int pa_nil)) pa_nil)))))))))
  (pss_one (ps_ret (pe_cmpR (k_eqD K rfl hr.units) (pe_lc (own := [("_law_bad", 0)]) (g := gName 0) (by rfl) sc_law_refused.nd (k_piL K rfl (pv 1)) (blkOk_by (own := [("_law_bad", 0)]) (N := N_law_refused) (sc := defScope s_law_refused) (by decide +kernel)) (fun _ _ _ _ _ => (pg_name (i := 0) sc_law_refused.nd rfl (by first | exact Or.inl rfl | exact Or.inr rfl))) (fun _ _ _ _ _ => (pts_one (pt_cmpR (k_neD K rfl hr.units) (pe_callG (G_law_caught (P := P) T) gd (hr.mono (by decide)) (by rfl) T.g_law_caught T.F_law_caught.kp T.b_law_caught .nil pass0 (pa_cons (pe_lst (pa_cons pe_int (pa_cons (pe_lst (pa_cons pe_int pa_nil)) (pa_cons (pv 0) pa_nil)))) pa_nil)) (pe_lst (pa_cons pe_str (pa_cons (pe_callB (k_reprX K rfl gd (hu65 hr)) (by rfl) T.n_repr (by decide +kernel) (pa_cons (pv 0) pa_nil)) pa_nil))) (nomark _)))) (fun _ _ _ _ _ => (pv 0))) (pe_lst pa_nil) (nomark _))))))), ?_⟩
  refine ⟨(by show 5 ≤ sizeLine; decide), fun q11 nq11 => ?_⟩
  obtain ⟨Hq11, eq11, sq11, hq11⟩ := fresh (.lst [V.non, .int 0, .int 25, .bl true, .str (("4" : String) : Str)]) nq11
  rw [eq11]
  have f1 : ∀ x ∈ [V.non, .int 0, .int 25, .bl true, .str (("4" : String) : Str)], (NumV K Hq11 x 1 (some 24) false) ∧ ∃ t, Shw K Hq11 x t ∧ PyData.strOk t = true := by
    intro x hx
    simp only [List.mem_cons, List.not_mem_nil, or_false] at hx
    rcases hx with rfl | rfl | rfl | rfl | rfl
    · exact ⟨.inr ⟨.inr ⟨_, .base .non, by decide +kernel⟩, rfl⟩, shw_ok .non (by decide +kernel)⟩
    · exact ⟨.inl ⟨0, rfl, (decide_eq_false fun z => absurd z.1 (by decide)).symm⟩, shw_ok (.int _) (by decide +kernel)⟩
    · exact ⟨.inl ⟨25, rfl, (decide_eq_false fun z => absurd (z.2 _ rfl) (by decide)).symm⟩, shw_ok (.int _) (by decide +kernel)⟩
    · exact ⟨.inr ⟨.inl ⟨_, rfl⟩, rfl⟩, shw_ok (.bl _) (by decide +kernel)⟩
    · exact ⟨.inr ⟨.inr ⟨_, .base (.str _), by decide +kernel⟩, rfl⟩, shw_ok (.str _) (by decide +kernel)⟩
  refine ⟨q11, rfl, ⟨_, .inl (.inl hq11)⟩, for_list (K := K) (a := q11) (fun i σ HE1 => ∃ v1 : Option V, σ = [v1, none] ∧ Same Hq11 HE1) ⟨_, rfl, Same.refl _⟩ (fun i σ HE _ ⟨_, _, s⟩ => .inl (.inl (s _ _ hq11))) ?_ ?_⟩
  · rintro i x σ HE1 hx ⟨v1, rfl, sE1⟩
    obtain ⟨hB, t, hS, hok⟩ := f1 x (List.mem_of_getElem? hx)
    refine ⟨_, rfl, (by show 3 ≤ sizeLine; decide), fun c101 nc101 => ?_⟩
    obtain ⟨Hc101, ec101, sc101, hc101⟩ := fresh (.lst [x, .non, .non]) nc101
    rw [ec101]
    have s0c10 : Same Hq11 Hc101 := (sE1).trans (sc101)
    refine ⟨c101, _, _, _,  x, _, t, rfl, hc101, hS.same s0c10, .inl ⟨rfl, rfl, hB.same s0c10⟩, fun Hc10X pc10 sXc10 npc10 hpc10 => ?_⟩
    have sYc10 := s0c10.trans sXc10
    refine ⟨_, rfl, (hS.same sYc10).repr ⟨(by show 2 ≤ sizeLine; decide), fun Mc10 nMc10 => ?_⟩⟩
    obtain ⟨Hc10Z, eZc10, sZc10, hMc10⟩ := fresh (.lst [.str (("depth" : String) : Str), .str t]) nMc10
    rw [eZc10]
    refine ⟨_, _, .lst (.inl (.inl (sZc10 _ _ hpc10))) (.cons (.str _) (.cons (.str _) .nil)), .lst (.inl (.inl hMc10)) (.cons (.str _) (.cons (.str _) .nil)), pair_shaped (by decide +kernel) hok, pair_shaped (by decide +kernel) hok, _, rfl, ?_⟩
    rw [pair_eqv]
    refine iteF ?_
    have s3c10 : Same Hq11 Hc10Z := sYc10.trans sZc10
    exact ⟨_, rfl, s3c10⟩
  · rintro σ HE1 ⟨v1, rfl, sE1⟩
    have sF1 := (sq11).trans sE1
    refine ⟨(by show 0 ≤ sizeLine; decide), fun q21 nq21 => ?_⟩
    obtain ⟨Hq21, eq21, sq21, hq21⟩ := fresh (.tup ([] : List V)) nq21
    rw [eq21]
    refine ⟨(by show 1 ≤ sizeLine; decide), fun q22 nq22 => ?_⟩
    obtain ⟨Hq22, eq22, sq22, hq22⟩ := fresh (.lst [V.bl true]) nq22
    rw [eq22]
    refine ⟨(by show 2 ≤ sizeLine; decide), fun q23 nq23 => ?_⟩
    obtain ⟨Hq23, eq23, sq23, hq23⟩ := fresh (.lst [V.int 1, .non]) nq23
    rw [eq23]
    refine ⟨(by show 1 ≤ sizeLine; decide), fun q24 nq24 => ?_⟩
    obtain ⟨Hq24, eq24, sq24, hq24⟩ := fresh (.lst [V.int 32769]) nq24
    rw [eq24]
    refine ⟨(by show 1 ≤ sizeLine; decide), fun q25 nq25 => ?_⟩
    obtain ⟨Hq25, eq25, sq25, hq25⟩ := fresh (.lst [V.int 0]) nq25
    rw [eq25]
    refine ⟨q25, _, _, rfl, rfl, hq25, by decide, by decide, by decide, fun q26 nq26 => ?_⟩
    obtain ⟨Hq26, eq26, sq26, hq26⟩ := fresh (.lst (List.replicate (Int.toNat 9) [V.int 0]).flatten) nq26
    rw [eq26]
    have hq26 : Hq26 q26 = some (.lst [V.int 0, .int 0, .int 0, .int 0, .int 0, .int 0, .int 0, .int 0, .int 0]) := hq26
    refine ⟨(by show 6 ≤ sizeLine; decide), fun q27 nq27 => ?_⟩
    obtain ⟨Hq27, eq27, sq27, hq27⟩ := fresh (.lst [V.non, .ref q21, .ref q22, .ref q23, .ref q24, .ref q26]) nq27
    rw [eq27]
    have f2 : ∀ x ∈ [V.non, .ref q21, .ref q22, .ref q23, .ref q24, .ref q26], (BadR K Hq27 x) ∧ ∃ t, Shw K Hq27 x t ∧ PyData.strOk t = true := by
      intro x hx
      simp only [List.mem_cons, List.not_mem_nil, or_false] at hx
      rcases hx with rfl | rfl | rfl | rfl | rfl | rfl
      · exact ⟨.inl ⟨_, .base .non, by decide +kernel⟩, shw_ok .non (by decide +kernel)⟩
      · exact ⟨.inl ⟨_, .base (.tup (sq27 _ _ (sq26 _ _ (sq25 _ _ (sq24 _ _ (sq23 _ _ (sq22 _ _ hq21))))))), by decide +kernel⟩, shw_ok (.tup (.inl (.inl (sq27 _ _ (sq26 _ _ (sq25 _ _ (sq24 _ _ (sq23 _ _ (sq22 _ _ hq21)))))))) .nil) (by decide +kernel)⟩
      · exact ⟨.inr ⟨q22, _, rfl, (sq27 _ _ (sq26 _ _ (sq25 _ _ (sq24 _ _ (sq23 _ _ hq22))))), by decide, (items1 (item_bl _)), .inl rfl⟩, shw_ok (.lst (.inl (.inl (sq27 _ _ (sq26 _ _ (sq25 _ _ (sq24 _ _ (sq23 _ _ hq22))))))) (.cons (.bl _) .nil)) (by decide +kernel)⟩
      · exact ⟨.inr ⟨q23, _, rfl, (sq27 _ _ (sq26 _ _ (sq25 _ _ (sq24 _ _ hq23)))), by decide, (items2 (.inl ⟨_, rfl⟩) (item_non)), .inl rfl⟩, shw_ok (.lst (.inl (.inl (sq27 _ _ (sq26 _ _ (sq25 _ _ (sq24 _ _ hq23)))))) (.cons (.int _) (.cons .non .nil))) (by decide +kernel)⟩
      · exact ⟨.inr ⟨q24, _, rfl, (sq27 _ _ (sq26 _ _ (sq25 _ _ hq24))), by decide, (simple_ints ([32769] : List Int)), .inr ⟨([32769] : List Int), rfl, .inr ⟨32769, by simp, by decide⟩⟩⟩, shw_ok (dp_row (ns := ([32769] : List Int)) (.inl (.inl (sq27 _ _ (sq26 _ _ (sq25 _ _ hq24)))))) (by decide +kernel)⟩
      · exact ⟨.inr ⟨q26, _, rfl, (sq27 _ _ hq26), by decide, (simple_ints ([0, 0, 0, 0, 0, 0, 0, 0, 0] : List Int)), .inr ⟨([0, 0, 0, 0, 0, 0, 0, 0, 0] : List Int), rfl, .inl (by decide)⟩⟩, shw_ok (dp_row (ns := ([0, 0, 0, 0, 0, 0, 0, 0, 0] : List Int)) (.inl (.inl (sq27 _ _ hq26)))) (by decide +kernel)⟩
    refine ⟨q27, rfl, ⟨_, .inl (.inl hq27)⟩, for_list (K := K) (a := q27) (fun i σ HE2 => ∃ v1 : Option V, σ = [v1, none] ∧ Same Hq27 HE2) ⟨_, rfl, Same.refl _⟩ (fun i σ HE _ ⟨_, _, s⟩ => .inl (.inl (s _ _ hq27))) ?_ ?_⟩
    · rintro i x σ HE2 hx ⟨v1, rfl, sE2⟩
      obtain ⟨hB, t, hS, hok⟩ := f2 x (List.mem_of_getElem? hx)
      refine ⟨_, rfl, (by show 3 ≤ sizeLine; decide), fun c201 nc201 => ?_⟩
      obtain ⟨Hc201, ec201, sc201, hc201⟩ := fresh (.lst [V.int 3, x, .non]) nc201
      rw [ec201]
      have s0c20 : Same Hq27 Hc201 := (sE2).trans (sc201)
      refine ⟨c201, _, _, _,  x, _, t, rfl, hc201, hS.same s0c20, .inr ⟨3, rfl, by decide, by decide, .inl ⟨rfl, rfl, hB.same s0c20⟩⟩, fun Hc20X pc20 sXc20 npc20 hpc20 => ?_⟩
      have sYc20 := s0c20.trans sXc20
      refine ⟨_, rfl, (hS.same sYc20).repr ⟨(by show 2 ≤ sizeLine; decide), fun Mc20 nMc20 => ?_⟩⟩
      obtain ⟨Hc20Z, eZc20, sZc20, hMc20⟩ := fresh (.lst [.str (("weights" : String) : Str), .str t]) nMc20
      rw [eZc20]
      refine ⟨_, _, .lst (.inl (.inl (sZc20 _ _ hpc20))) (.cons (.str _) (.cons (.str _) .nil)), .lst (.inl (.inl hMc20)) (.cons (.str _) (.cons (.str _) .nil)), pair_shaped (by decide +kernel) hok, pair_shaped (by decide +kernel) hok, _, rfl, ?_⟩
      rw [pair_eqv]
      refine iteF ?_
      have s3c20 : Same Hq27 Hc20Z := sYc20.trans sZc20
      exact ⟨_, rfl, s3c20⟩
    · rintro σ HE2 ⟨v1, rfl, sE2⟩
      have sF2 := ((((((sq21.trans sq22).trans sq23).trans sq24).trans sq25).trans sq26).trans sq27).trans sE2
      refine ⟨_, rfl, _, _, rfl, rfl, ⟨by decide, by decide +kernel⟩, _, _, rfl, rfl, (by show 1 ≤ sizeLine; decide), fun r1 nr1 => ?_⟩
      obtain ⟨Hr1, er1, sr1, hr1⟩ := fresh (.lst [V.int 1]) nr1
      rw [er1]
      refine ⟨(by show 7 ≤ sizeLine; decide), fun r2 nr2 => ?_⟩
      obtain ⟨Hr2, er2, sr2, hr2⟩ := fresh (.lst [V.non, .int 0, .int (-1), .int (10 ^ (18 : Int).toNat + 1), .bl true, .str (("1" : String) : Str), .ref r1]) nr2
      rw [er2]
      have f3 : ∀ x ∈ [V.non, .int 0, .int (-1), .int (10 ^ (18 : Int).toNat + 1), .bl true, .str (("1" : String) : Str), .ref r1], (NumV K Hr2 x 1 (some (10 ^ 18)) false) ∧ ∃ t, Shw K Hr2 x t ∧ PyData.strOk t = true := by
        intro x hx
        simp only [List.mem_cons, List.not_mem_nil, or_false] at hx
        rcases hx with rfl | rfl | rfl | rfl | rfl | rfl | rfl
        · exact ⟨.inr ⟨.inr ⟨_, .base .non, by decide +kernel⟩, rfl⟩, shw_ok .non (by decide +kernel)⟩
        · exact ⟨.inl ⟨0, rfl, (decide_eq_false fun z => absurd z.1 (by decide)).symm⟩, shw_ok (.int _) (by decide +kernel)⟩
        · exact ⟨.inl ⟨-1, rfl, (decide_eq_false fun z => absurd z.1 (by decide)).symm⟩, shw_ok (.int _) (by decide +kernel)⟩
        · exact ⟨.inl ⟨_, rfl, (decide_eq_false fun z => absurd (z.2 _ rfl) (by decide)).symm⟩, shw_ok (.int _) (by decide +kernel)⟩
        · exact ⟨.inr ⟨.inl ⟨_, rfl⟩, rfl⟩, shw_ok (.bl _) (by decide +kernel)⟩
        · exact ⟨.inr ⟨.inr ⟨_, .base (.str _), by decide +kernel⟩, rfl⟩, shw_ok (.str _) (by decide +kernel)⟩
        · exact ⟨.inr ⟨.inr ⟨_, .base (.lst (sr2 _ _ hr1)), by decide +kernel⟩, rfl⟩, shw_ok (dp_row (ns := ([1] : List Int)) (.inl (.inl (sr2 _ _ hr1)))) (by decide +kernel)⟩
      refine ⟨_, rfl, r2, rfl, ⟨_, .inl (.inl hr2)⟩, fun D nD => ?_⟩
      refine lc_selL (K := K) (xs := [V.non, .int 0, .int (-1), .int (10 ^ (18 : Int).toNat + 1), .bl true, .str (("1" : String) : Str), .ref r1]) ([V.non, .int 0, .int (-1), .int (10 ^ (18 : Int).toNat + 1), .bl true, .str (("1" : String) : Str), .ref r1].map fun _ => none) nD (.inl (.inl hr2)) (by rw [List.length_map]) (small4 (by show 7 ≤ 100000; decide)) (fun x => rfl) ?_ ?_
      · intro i x o H5 hx ho s5 Qt qt
        obtain ⟨hB, t, hS, hok⟩ := f3 x (List.mem_of_getElem? hx)
        rw [List.getElem?_map, hx] at ho
        cases ho
        refine ⟨(by show 1 ≤ sizeLine; decide), fun d1 nd1 => ?_⟩
        obtain ⟨Hd1, ed1, sd1, hd1⟩ := fresh (.lst [V.int 1]) nd1
        rw [ed1]
        refine ⟨_, rfl, (by show 3 ≤ sizeLine; decide), fun d2 nd2 => ?_⟩
        obtain ⟨Hd2, ed2, sd2, hd2⟩ := fresh (.lst [V.int 3, .ref d1, x]) nd2
        rw [ed2]
        have s0d : Same Hr2 Hd2 := (s5).trans (sd1.trans sd2)
        refine ⟨d2, _, _, _,  x, _, t, rfl, hd2, hS.same s0d, .inr ⟨3, rfl, by decide, by decide, .inr ⟨d1, [1], rfl, (sd2 _ _ hd1), ⟨by decide, by decide⟩, rfl, rfl, hB.same s0d⟩⟩, fun HdX pd sXd npd hpd => ?_⟩
        have sYd := s0d.trans sXd
        refine ⟨_, rfl, (hS.same sYd).repr ⟨(by show 2 ≤ sizeLine; decide), fun Md nMd => ?_⟩⟩
        obtain ⟨HdZ, eZd, sZd, hMd⟩ := fresh (.lst [.str (("number" : String) : Str), .str t]) nMd
        rw [eZd]
        refine ⟨_, _, .lst (.inl (.inl (sZd _ _ hpd))) (.cons (.str _) (.cons (.str _) .nil)), .lst (.inl (.inl hMd)) (.cons (.str _) (.cons (.str _) .nil)), pair_shaped (by decide +kernel) hok, pair_shaped (by decide +kernel) hok, _, rfl, ?_⟩
        rw [pair_eqv]
        refine iteF ?_
        have s3d : Same Hr2 HdZ := sYd.trans sZd
        exact qt _ (((sd1.trans sd2).trans sXd).trans sZd)
      · intro H6 s6 hD
        have hD6 : H6 D = some (.lst (([] : List Int).map V.int)) := hD
        refine ⟨(by show 0 ≤ sizeLine; decide), fun z nz => ?_⟩
        obtain ⟨H7, e7, s7, hz⟩ := fresh (.lst ([] : List V)) nz
        rw [e7]
        refine eqD_lst (ns := []) (ms := []) (.inl (.inl (s7 _ _ hD6))) (.inl (.inl hz)) ?_
        exact q _ ((((sF1.trans sF2).trans (sr1.trans sr2)).trans s6).trans s7)
end
end My

namespace My
/-! ### small rows: not many states -/
def codeS (h B : Nat) : List Int → Nat
  | [] => 0
  | x :: r => (x + (h : Int)).toNat + B * codeS h B r
theorem codeS_lt {h B : Nat} : ∀ {l : List Int}, (∀ x ∈ l, -(h : Int) ≤ x ∧ x < h) → B = 2 * h → codeS h B l < B ^ l.length
  | [], _, _ => Nat.one_pos
  | x :: r, hx, e => by
    have ih := codeS_lt (l := r) (fun y hy => hx y (List.mem_cons_of_mem _ hy)) e
    have h0 := hx x List.mem_cons_self
    show (x + (h : Int)).toNat + B * codeS h B r < B ^ (r.length + 1)
    rw [Nat.pow_succ, Nat.mul_comm (B ^ r.length)]
    have : B * (codeS h B r + 1) ≤ B * B ^ r.length := Nat.mul_le_mul_left B ih
    rw [Nat.mul_succ] at this
    omega
theorem codeS_inj {h B : Nat} : ∀ {l k : List Int}, l.length = k.length → (∀ x ∈ l, -(h : Int) ≤ x ∧ x < h) → (∀ x ∈ k, -(h : Int) ≤ x ∧ x < h) → B = 2 * h → codeS h B l = codeS h B k → l = k
  | [], [], _, _, _, _, _ => rfl
  | x :: r, y :: s, hl, hx, hy, e, ec => by
    have a := hx x List.mem_cons_self
    have b := hy y List.mem_cons_self
    have ec' : (x + (h : Int)).toNat + B * codeS h B r = (y + (h : Int)).toNat + B * codeS h B s := ec
    have m1 := congrArg (· % B) ec'
    have m2 := congrArg (· / B) ec'
    have lt1 : (x + (h : Int)).toNat < B := by omega
    have lt2 : (y + (h : Int)).toNat < B := by omega
    have hB : 0 < B := by omega
    simp only [Nat.add_mul_mod_self_left, Nat.mod_eq_of_lt lt1, Nat.mod_eq_of_lt lt2] at m1
    simp only [Nat.add_mul_div_left _ _ hB, Nat.div_eq_of_lt lt1, Nat.div_eq_of_lt lt2, Nat.zero_add] at m2
    have : r = s := codeS_inj (by simpa using hl) (fun z hz => hx z (List.mem_cons_of_mem _ hz)) (fun z hz => hy z (List.mem_cons_of_mem _ hz)) e m2
    rw [this, show x = y by omega]
theorem Per.un {α : Type} {S : Nat → α} {h p : Nat} (P : Per S h p) {i j : Nat} (hij : i < j) (hj : j < h + p) : S i ≠ S j := fun e => by
  have := P.2.2 i (j - i) (by omega) (by rw [show i + (j - i) = j by omega]; exact e.symm)
  have := Nat.le_of_dvd (by omega) this.2
  omega
theorem per_small {d : Nat} (d1 : 1 ≤ d) {ws fs : List Int} (hl : fs.length = ws.length) (hs : Smp d fs) {hd p : Nat} (P : Per (stL (2 ^ (d - 1)) ws fs) hd p) : hd + p ≤ 2 ^ (d * ws.length) := by
  refine Nat.le_of_not_lt fun c => ?_
  have hB : 2 ^ d = 2 * 2 ^ (d - 1) := by
    obtain ⟨k, rfl⟩ : ∃ k, d = k + 1 := ⟨d - 1, by omega⟩
    rw [Nat.add_sub_cancel, Nat.pow_succ, Nat.mul_comm]
  have hr : ∀ n, ∀ x ∈ stL (2 ^ (d - 1)) ws fs n, -((2 ^ (d - 1) : Nat) : Int) ≤ x ∧ x < ((2 ^ (d - 1) : Nat) : Int) := fun n x hx => by
    rw [Int.natCast_pow]
    exact stL_smp hs n x hx
  obtain ⟨i, j, h1, h2, h3⟩ := same_code (2 ^ (d * ws.length)) (fun n => codeS (2 ^ (d - 1)) (2 ^ d) (stL (2 ^ (d - 1)) ws fs n)) fun n _ => by
    have := codeS_lt (hr n) hB
    rw [stL_len, ← Nat.pow_mul] at this
    exact this
  exact P.un h1 (by omega) (codeS_inj (by rw [stL_len, stL_len]) (hr i) (hr j) hB h3)
/-- every row has a head and a length -/
theorem per_any {d : Nat} (d1 : 1 ≤ d) {ws fs : List Int} (hl : fs.length = ws.length) (hs : Smp d fs) : ∃ hd p, Per (stL (2 ^ (d - 1)) ws fs) hd p ∧ hd + p ≤ 2 ^ (d * ws.length) := by
  have hB : 2 ^ d = 2 * 2 ^ (d - 1) := by
    obtain ⟨k, rfl⟩ : ∃ k, d = k + 1 := ⟨d - 1, by omega⟩
    rw [Nat.add_sub_cancel, Nat.pow_succ, Nat.mul_comm]
  have hr : ∀ n, ∀ x ∈ stL (2 ^ (d - 1)) ws fs n, -((2 ^ (d - 1) : Nat) : Int) ≤ x ∧ x < ((2 ^ (d - 1) : Nat) : Int) := fun n x hx => by
    rw [Int.natCast_pow]
    exact stL_smp hs n x hx
  obtain ⟨i, j, h1, h2, h3⟩ := same_code (2 ^ (d * ws.length)) (fun n => codeS (2 ^ (d - 1)) (2 ^ d) (stL (2 ^ (d - 1)) ws fs n)) fun n _ => by
    have := codeS_lt (hr n) hB
    rw [stL_len, ← Nat.pow_mul] at this
    exact this
  have e := codeS_inj (by rw [stL_len, stL_len]) (hr i) (hr j) hB h3
  obtain ⟨hd, p, hP, _, _⟩ := per_some (st_next (half_pos d) hl hs) (a := i) (L := j - i) (by omega) (by rw [show i + (j - i) = j by omega]; exact e.symm)
  exact ⟨hd, p, hP, per_small d1 hl hs hP⟩
end My

namespace My
/-! ### known heads and lengths -/
theorem per_nil {h : Int} {fs : List Int} : Per (stL h [] fs) 0 1 := ⟨Nat.le_refl _, rfl, fun i L _ _ => ⟨Nat.zero_le _, Nat.one_dvd _⟩⟩
theorem per_b : Per (stL (2 ^ (2 - 1)) [2] [1]) 2 1 := per_walk (S := stL (2 ^ (2 - 1)) [2] [1]) (st_next (h := 2 ^ (2 - 1)) (ws := [2]) (fs := [1]) (by decide) rfl (by decide)) (by decide) (by decide +kernel) (by decide +kernel)
theorem per_c : Per (stL (2 ^ (2 - 1)) [2] [-1]) 2 1 := per_walk (S := stL (2 ^ (2 - 1)) [2] [-1]) (st_next (h := 2 ^ (2 - 1)) (ws := [2]) (fs := [-1]) (by decide) rfl (by decide)) (by decide) (by decide +kernel) (by decide +kernel)
theorem per_d : Per (stL (2 ^ (2 - 1)) [1, 0] [1, 0]) 1 1 := per_walk (S := stL (2 ^ (2 - 1)) [1, 0] [1, 0]) (st_next (h := 2 ^ (2 - 1)) (ws := [1, 0]) (fs := [1, 0]) (by decide) rfl (by decide)) (by decide) (by decide +kernel) (by decide +kernel)
theorem per_e : Per (stL (2 ^ (2 - 1)) [0, 2] [0, -1]) 4 1 := per_walk (S := stL (2 ^ (2 - 1)) [0, 2] [0, -1]) (st_next (h := 2 ^ (2 - 1)) (ws := [0, 2]) (fs := [0, -1]) (by decide) rfl (by decide)) (by decide) (by decide +kernel) (by decide +kernel)
theorem prime_some : ∀ k, 2 ≤ k → ∃ q, Prime q ∧ q ∣ k := by
  intro k
  induction k using Nat.strongRecOn with
  | ind k ih =>
    intro h2
    by_cases c : ∃ a, a ∣ k ∧ a ≠ 1 ∧ a ≠ k
    · obtain ⟨a, ha, a1, ak⟩ := c
      have := Nat.le_of_dvd (by omega) ha
      have a0 : a ≠ 0 := fun z => by rw [z] at ha; have := Nat.eq_zero_of_zero_dvd ha; omega
      obtain ⟨q, hq, hd⟩ := ih a (by omega) (by omega)
      exact ⟨q, hq, Nat.dvd_trans hd ha⟩
    · exact ⟨k, ⟨h2, fun a ha => by
        by_cases a1 : a = 1
        · exact .inl a1
        · by_cases ak : a = k
          · exact .inr ak
          · exact absurd ⟨a, ha, a1, ak⟩ c⟩, Nat.dvd_refl k⟩
theorem prime_mul {q a b : Nat} (hq : Prime q) (h : q ∣ a * b) : q ∣ a ∨ q ∣ b := by
  by_cases c : q ∣ a
  · exact .inl c
  · exact .inr (Nat.Coprime.dvd_of_dvd_mul_left (show Nat.gcd q a = 1 by rw [Nat.gcd_comm]; exact prime_gcd hq c) h)
theorem prime_small {q a : Nat} (hq : Prime q) (ha : Prime a) (h : q ∣ a) : q = a := by
  rcases ha.2 q h with e | e
  · have := hq.1; omega
  · exact e
theorem prime2 : Prime 2 := ⟨by decide, fun a ha => by have := Nat.le_of_dvd (by decide) ha; have : a ≠ 0 := fun z => by rw [z] at ha; have := Nat.eq_zero_of_zero_dvd ha; omega
                                                       omega⟩
theorem prime3 : Prime 3 := ⟨by decide, fun a ha => by
  have := Nat.le_of_dvd (by decide) ha
  have h0 : a ≠ 0 := fun z => by rw [z] at ha; have := Nat.eq_zero_of_zero_dvd ha; omega
  have h2 : a ≠ 2 := fun z => by rw [z] at ha; omega
  omega⟩
theorem prime_two {q : Nat} (hq : Prime q) : ∀ n, q ∣ 2 ^ n → q = 2
  | 0, h => by have := Nat.le_of_dvd (by decide) h; have := hq.1; omega
  | n + 1, h => by
    rw [Nat.pow_succ] at h
    rcases prime_mul hq h with h | h
    · exact prime_two hq n h
    · exact prime_small hq prime2 h
/-- a length that leads back, and no part of it by a prime -/
theorem per_exact {α : Type} {S : Nat → α} (hN : Nxt S) {h p L : Nat} (P : Per S h p) (L1 : 1 ≤ L) (e : S L = S 0) (no : ∀ q, Prime q → q ∣ L → S (L / q) ≠ S 0) : h = 0 ∧ p = L := by
  have z := P.2.2 0 L L1 (by rw [Nat.zero_add]; exact e)
  obtain rfl : h = 0 := by omega
  refine ⟨rfl, ?_⟩
  obtain ⟨k, hk⟩ := z.2
  by_cases k1 : k = 1
  · rw [hk, k1, Nat.mul_one]
  · have k0 : k ≠ 0 := fun z => by rw [z, Nat.mul_zero] at hk; omega
    obtain ⟨q, hq, j, hj⟩ := prime_some k (by omega)
    refine absurd ?_ (no q hq ⟨p * j, by rw [hk, hj, Nat.mul_left_comm]⟩)
    have : L / q = p * j := by rw [hk, hj, Nat.mul_left_comm, Nat.mul_div_cancel_left _ (by have := hq.1; omega)]
    rw [this]
    have t := hN.times P.2.1 j
    rw [Nat.zero_add] at t
    exact t
def Mul2 (N : Int) (r : Nat → Int) (n : Nat) (a b : Int) : Prop := ∀ i, N ∣ r (i + n) - (a * r i + b * r (i + 1))
theorem Mul2.mul {N : Int} {r : Nat → Int} (hr : ∀ i, N ∣ r (i + 2) - (r (i + 1) + r i)) {n m : Nat} {a b c d : Int} (h1 : Mul2 N r n a b) (h2 : Mul2 N r m c d) : Mul2 N r (n + m) ((a * c + b * d) % N) ((a * d + b * c + b * d) % N) := fun i => by
  obtain ⟨u1, e1⟩ := h2 (i + n)
  obtain ⟨u2, e2⟩ := h1 i
  obtain ⟨u3, e3⟩ := h1 (i + 1)
  obtain ⟨u4, e4⟩ := hr i
  have f1 := Int.mul_ediv_add_emod (a * c + b * d) N
  have f2 := Int.mul_ediv_add_emod (a * d + b * c + b * d) N
  rw [show i + n + 1 = i + 1 + n by omega] at e1
  rw [show i + (n + m) = i + n + m by omega]
  generalize (a * c + b * d) % N = A at *
  generalize (a * d + b * c + b * d) % N = B at *
  generalize (a * c + b * d) / N = v1 at *
  generalize (a * d + b * c + b * d) / N = v2 at *
  rw [show i + 1 + 1 = i + 2 from rfl] at e3
  generalize r (i + n + m) = x0 at *
  generalize r (i + n) = x1 at *
  generalize r (i + 1 + n) = x2 at *
  generalize r (i + 2) = x3 at *
  generalize r (i + 1) = x4 at *
  generalize r i = x5 at *
  refine ⟨u1 + c * u2 + d * u3 + d * b * u4 + v1 * x5 + v2 * x4, ?_⟩
  obtain rfl : x3 = x4 + x5 + N * u4 := by omega
  obtain rfl : x2 = a * x4 + b * (x4 + x5 + N * u4) + N * u3 := by omega
  obtain rfl : x1 = a * x5 + b * x4 + N * u2 := by omega
  obtain rfl : x0 = c * (a * x5 + b * x4 + N * u2) + d * (a * x4 + b * (x4 + x5 + N * u4) + N * u3) + N * u1 := by omega
  obtain rfl : A = a * c + b * d - N * v1 := by omega
  obtain rfl : B = a * d + b * c + b * d - N * v2 := by omega
  simp only [Int.mul_add, Int.add_mul, Int.sub_mul]
  simp only [Int.mul_assoc, Int.mul_comm, Int.mul_left_comm]
  omega
end My

namespace My
/-! ### great known lengths -/
def Mul1 (N : Int) (r : Nat → Int) (n : Nat) (a : Int) : Prop := ∀ i, N ∣ r (i + n) - a * r i
theorem Mul1.sq {N : Int} {r : Nat → Int} {k : Nat} {a : Int} (h : Mul1 N r (2 ^ k) a) (b : Int) (e : (a * a) % N = b) : Mul1 N r (2 ^ (k + 1)) b := fun i => by
  obtain ⟨u1, e1⟩ := h i
  obtain ⟨u2, e2⟩ := h (i + 2 ^ k)
  have f := Int.mul_ediv_add_emod (a * a) N
  rw [e] at f
  generalize (a * a) / N = v at *
  rw [show i + 2 ^ (k + 1) = i + 2 ^ k + 2 ^ k by rw [Nat.pow_succ]; omega]
  generalize r (i + 2 ^ k + 2 ^ k) = x0 at *
  generalize r (i + 2 ^ k) = x1 at *
  generalize r i = x2 at *
  refine ⟨u2 + a * u1 + v * x2, ?_⟩
  obtain rfl : x1 = a * x2 + N * u1 := by omega
  obtain rfl : x0 = a * (a * x2 + N * u1) + N * u2 := by omega
  obtain rfl : b = a * a - N * v := by omega
  simp only [Int.mul_add, Int.add_mul, Int.sub_mul]
  simp only [Int.mul_assoc, Int.mul_comm, Int.mul_left_comm]
  omega
theorem Mul2.sq {N : Int} {r : Nat → Int} (hr : ∀ i, N ∣ r (i + 2) - (r (i + 1) + r i)) {k : Nat} {a b : Int} (h : Mul2 N r (2 ^ k) a b) (A B : Int) (e1 : (a * a + b * b) % N = A) (e2 : (a * b + b * a + b * b) % N = B) : Mul2 N r (2 ^ (k + 1)) A B := by
  have := h.mul hr h
  rw [e1, e2] at this
  rw [Nat.pow_succ, Nat.mul_two]
  exact this
theorem n24 : (2 : Int) * 2 ^ (24 - 1) = 16777216 := by decide
theorem row3_pow : Mul1 16777216 (goR (2 ^ (24 - 1)) [3] [1]) (2 ^ 21) 8388609 ∧ Mul1 16777216 (goR (2 ^ (24 - 1)) [3] [1]) (2 ^ 22) 1 := by
  have m0 : Mul1 16777216 (goR (2 ^ (24 - 1)) [3] [1]) (2 ^ 0) 3 := fun i => by
    have h := goR_fol (h := 2 ^ (24 - 1)) (ws := [3]) (fs := [1]) (by decide) rfl i
    rw [n24] at h
    have e : (sumN ([3] : List Int).length fun b => ([3] : List Int).getD b 0 * goR (2 ^ (24 - 1)) [3] [1] (i + ([3] : List Int).length - 1 - b)) = 3 * goR (2 ^ (24 - 1)) [3] [1] i := by
      show 0 + 3 * goR (2 ^ (24 - 1)) [3] [1] (i + 1 - 1 - 0) = _
      rw [show i + 1 - 1 - 0 = i by omega, Int.zero_add]
    rw [e] at h
    exact h
  have m21 := (((((((((((((((((((((m0.sq 9 (by decide)).sq 81 (by decide)).sq 6561 (by decide)).sq 9492289 (by decide)).sq 1982081 (by decide)).sq 8305921 (by decide)).sq 8813057 (by decide)).sq 3208193 (by decide)).sq 15853569 (by decide)).sq 2347009 (by decide)).sq 4694017 (by decide)).sq 9388033 (by decide)).sq 1998849 (by decide)).sq 3997697 (by decide)).sq 7995393 (by decide)).sq 15990785 (by decide)).sq 15204353 (by decide)).sq 13631489 (by decide)).sq 10485761 (by decide)).sq 4194305 (by decide)).sq 8388609 (by decide))
  exact ⟨m21, m21.sq 1 (by decide)⟩
theorem per_three {h p : Nat} (P : Per (stL (2 ^ (24 - 1)) [3] [1]) h p) : h = 0 ∧ p = 2 ^ 22 := by
  have hN := st_next (h := 2 ^ (24 - 1)) (ws := [3]) (fs := [1]) (by decide) rfl (by decide)
  have hR := goR_range (h := 2 ^ (24 - 1)) (ws := [3]) (fs := [1]) (by decide) (by decide)
  have r0 : goR (2 ^ (24 - 1)) [3] [1] 0 = 1 := goR_first (by decide)
  refine per_exact hN P (by decide) ?_ fun q hq hd => ?_
  · refine stL_eq.mpr fun l hl => ?_
    obtain rfl : l = 0 := by have : l < 1 := hl; omega
    refine near_eq (hR _) (hR _) ?_
    have := row3_pow.2 0
    rw [Int.one_mul] at this
    rw [n24]
    exact this
  · rw [prime_two hq 22 hd]
    intro e
    have e0 := stL_eq.mp e 0 (by decide)
    have := row3_pow.1 0
    rw [show (2 : Nat) ^ 22 / 2 = 2 ^ 21 by decide] at e0
    rw [e0, Nat.zero_add, r0] at this
    revert this
    decide
theorem fib_pow : Mul2 16777216 (goR (2 ^ (24 - 1)) [1, 1] [0, 1]) (2 ^ 23) 3471645 9833925 ∧ Mul2 16777216 (goR (2 ^ (24 - 1)) [1, 1] [0, 1]) (2 ^ 22 + 2 ^ 23) 8388609 0 ∧ Mul2 16777216 (goR (2 ^ (24 - 1)) [1, 1] [0, 1]) (2 ^ 23 + 2 ^ 24) 1 0 := by
  have hr : ∀ i, (16777216 : Int) ∣ goR (2 ^ (24 - 1)) [1, 1] [0, 1] (i + 2) - (goR (2 ^ (24 - 1)) [1, 1] [0, 1] (i + 1) + goR (2 ^ (24 - 1)) [1, 1] [0, 1] i) := fun i => by
    have h := goR_fol (h := 2 ^ (24 - 1)) (ws := [1, 1]) (fs := [0, 1]) (by decide) rfl i
    rw [n24] at h
    have e : (sumN ([1, 1] : List Int).length fun b => ([1, 1] : List Int).getD b 0 * goR (2 ^ (24 - 1)) [1, 1] [0, 1] (i + ([1, 1] : List Int).length - 1 - b)) = goR (2 ^ (24 - 1)) [1, 1] [0, 1] (i + 1) + goR (2 ^ (24 - 1)) [1, 1] [0, 1] i := by
      show 0 + 1 * goR (2 ^ (24 - 1)) [1, 1] [0, 1] (i + 2 - 1 - 0) + 1 * goR (2 ^ (24 - 1)) [1, 1] [0, 1] (i + 2 - 1 - 1) = _
      rw [show i + 2 - 1 - 0 = i + 1 by omega, show i + 2 - 1 - 1 = i by omega]
      omega
    rw [e] at h
    exact h
  have m0 : Mul2 16777216 (goR (2 ^ (24 - 1)) [1, 1] [0, 1]) (2 ^ 0) 0 1 := fun i => by
    show (16777216 : Int) ∣ goR (2 ^ (24 - 1)) [1, 1] [0, 1] (i + 1) - (0 * goR (2 ^ (24 - 1)) [1, 1] [0, 1] i + 1 * goR (2 ^ (24 - 1)) [1, 1] [0, 1] (i + 1))
    rw [Int.zero_mul, Int.one_mul, Int.zero_add, Int.sub_self]
    exact Int.dvd_zero _
  have m22 := (Mul2.sq hr (Mul2.sq hr (Mul2.sq hr (Mul2.sq hr (Mul2.sq hr (Mul2.sq hr (Mul2.sq hr (Mul2.sq hr (Mul2.sq hr (Mul2.sq hr (Mul2.sq hr (Mul2.sq hr (Mul2.sq hr (Mul2.sq hr (Mul2.sq hr (Mul2.sq hr (Mul2.sq hr (Mul2.sq hr (Mul2.sq hr (Mul2.sq hr (Mul2.sq hr (Mul2.sq hr m0 1 1 (by decide) (by decide)) 2 3 (by decide) (by decide)) 13 21 (by decide) (by decide)) 610 987 (by decide) (by decide)) 1346269 2178309 (by decide) (by decide)) 11560162 13246651 (by decide) (by decide)) 13410333 14625477 (by decide) (by decide)) 12025570 5844027 (by decide) (by decide)) 11113757 33221 (by decide) (by decide)) 15525602 973371 (by decide) (by decide)) 6777117 10476997 (by decide) (by decide)) 5408482 8229435 (by decide) (by decide)) 16693533 12406213 (by decide) (by decide)) 15271650 12087867 (by decide) (by decide)) 6027549 3345861 (by decide) (by decide)) 4392674 10744379 (by decide) (by decide)) 13695261 658885 (by decide) (by decide)) 11208418 5370427 (by decide) (by decide)) 10811677 6688197 (by decide) (by decide)) 4916962 651835 (by decide) (by decide)) 16054557 14028229 (by decide) (by decide)) 13305570 15331899 (by decide) (by decide))
  have m23 := Mul2.sq hr m22 3471645 9833925 (by decide) (by decide)
  have m24 := Mul2.sq hr m23 13305570 6943291 (by decide) (by decide)
  refine ⟨m23, ?_, ?_⟩
  · have := m22.mul hr m23
    rw [show ((13305570 * 3471645 + 15331899 * 9833925 : Int) % 16777216) = 8388609 by decide, show ((13305570 * 9833925 + 15331899 * 3471645 + 15331899 * 9833925 : Int) % 16777216) = 0 by decide] at this
    exact this
  · have := m23.mul hr m24
    rw [show ((3471645 * 13305570 + 9833925 * 6943291 : Int) % 16777216) = 1 by decide, show ((3471645 * 6943291 + 9833925 * 13305570 + 9833925 * 6943291 : Int) % 16777216) = 0 by decide] at this
    exact this
theorem per_fib {h p : Nat} (P : Per (stL (2 ^ (24 - 1)) [1, 1] [0, 1]) h p) : h = 0 ∧ p = 3 * 2 ^ 23 := by
  have hN := st_next (h := 2 ^ (24 - 1)) (ws := [1, 1]) (fs := [0, 1]) (by decide) rfl (by decide)
  have hR := goR_range (h := 2 ^ (24 - 1)) (ws := [1, 1]) (fs := [0, 1]) (by decide) (by decide)
  have r0 : goR (2 ^ (24 - 1)) [1, 1] [0, 1] 0 = 0 := goR_first (by decide)
  have r1 : goR (2 ^ (24 - 1)) [1, 1] [0, 1] 1 = 1 := goR_first (by decide)
  have r2 : goR (2 ^ (24 - 1)) [1, 1] [0, 1] (1 + 1) = 1 := by decide +kernel
  have no : ∀ {n : Nat} {a b : Int}, Mul2 16777216 (goR (2 ^ (24 - 1)) [1, 1] [0, 1]) n a b → ¬ ((16777216 : Int) ∣ 0 - (a * 0 + b * 1) ∧ (16777216 : Int) ∣ 1 - (a * 1 + b * 1)) → stL (2 ^ (24 - 1)) [1, 1] [0, 1] n ≠ stL (2 ^ (24 - 1)) [1, 1] [0, 1] 0 := fun {n a b} hm hn e => by
    have e0 := stL_eq.mp e 0 (by decide)
    have := hm 0
    rw [e0, Nat.zero_add, Nat.zero_add, r0, r1] at this
    have e1 := stL_eq.mp e 1 (by decide)
    have t1 := hm 1
    rw [e1, Nat.add_zero, r1, r2] at t1
    exact hn ⟨this, t1⟩
  refine per_exact hN P (by decide) ?_ fun q hq hd => ?_
  · rw [show 3 * 2 ^ 23 = 2 ^ 23 + 2 ^ 24 by decide]
    refine stL_eq.mpr fun l hl => near_eq (hR _) (hR _) ?_
    have := fib_pow.2.2 l
    rw [Int.one_mul, Int.zero_mul, Int.add_zero] at this
    rw [n24, Nat.add_zero]
    exact this
  · rcases prime_mul hq hd with hd | hd
    · rw [prime_small hq prime3 hd, show 3 * 2 ^ 23 / 3 = 2 ^ 23 by decide]
      exact no fib_pow.1 (by decide)
    · rw [prime_two hq 23 hd, show 3 * 2 ^ 23 / 2 = 2 ^ 22 + 2 ^ 23 by decide]
      exact no fib_pow.2.1 (by decide)
theorem alone_1 {es : List Int} (hl : es.length = 1) (ha : Alo 1 fun i => es.getD i 0) : es = [-1] := by
  match es, hl with
  | [x], _ => rw [show x = -1 from ha.2 (by decide)]
theorem alone_2 {es : List Int} (hl : es.length = 2) (ha : Alo 2 fun i => es.getD i 0) : es = [0, -1] := by
  match es, hl with
  | [x, y], _ => rw [show x = 0 from ha.1 0 (by decide), show y = -1 from ha.2 (by decide)]
theorem per_four {h p : Nat} (P : Per (stL (2 ^ (4 - 1)) [1, 1] [0, 1]) h p) : h = 0 ∧ p = 24 := by
  have hN := st_next (h := 2 ^ (4 - 1)) (ws := [1, 1]) (fs := [0, 1]) (by decide) rfl (by decide)
  refine per_exact hN P (by decide) (by decide +kernel) fun q hq hd => ?_
  rcases prime_mul (a := 3) (b := 2 ^ 3) hq hd with hd | hd
  · rw [prime_small hq prime3 hd]
    decide +kernel
  · rw [prime_two hq 3 hd]
    decide +kernel
end My

namespace My
open PySem PySem.Spec PyProof.Rows L2 Pre
/-! ### the longest period, with what is refused -/
local macro_rules | `(tactic| walk_at "go") => `(tactic| repeat (first | (with_reducible first | refine iteT ?_ | refine iteF ?_ | refine iteNtt ?_ | refine iteNff ?_ | refine iteET (by omega) ?_ | refine iteEF (by omega) ?_ | refine iteENT (by omega) ?_ | refine iteENF (by omega) ?_ | refine iteDT (by omega) ?_ | refine iteDF (by omega) ?_ | refine iteNT (by omega) ?_ | refine iteNF (by omega) ?_) | refine ⟨_, rfl, ?_⟩ | refine ⟨_, _, rfl, rfl, ?_⟩ | refine ⟨_, _, rfl, ?_⟩ | refine ⟨rfl, ?_⟩ | refine .inl ⟨_, rfl, ?_⟩ | refine .inr ⟨_, rfl, ?_⟩))
local macro_rules | `(tactic| walk_at "b") => `(tactic| try dsimp (config := { proj := false, iota := false, eta := false, zeta := false }) only)
section
variable {P : Program} {w : World} {K : PySem.W.Frag} {mg : Str → Option Value} {base : Heap} [pf : Sup.PF P fileS]
def sp_longest_period (K : PySem.W.Frag) (CD CW : Addr) : Sp := fun vs H Q E => ∃ v u : V, vs = [v, u] ∧
  ((∃ d : Nat, v = .int d ∧ 1 ≤ d ∧ d ≤ 24 ∧
    ((∃ (a : Addr) (ws : List Int), u = .ref a ∧ H a = some (.lst (ws.map V.int)) ∧ GoodR ws ∧
        ∀ H' t hd p es, Same H H' → H' t = some (.tup [.int (hd : Nat), .int (p : Nat)]) → es.length = ws.length → (Alo ws.length fun i => es.getD i 0) → Smp d es → Per (stL (2 ^ (d - 1)) ws es) hd p → hd ≤ ws.length * d → p ≤ 2 ^ 31 → Q (.ref t) H') ∨
      (BadR K H u ∧ ∀ H' dd, Same H H' → H' dd = none → E (.ref CW) (some dd) (upd H' dd (.xd [("value", u)]))))) ∨
   (NumV K H v 1 (some 24) false ∧ ∀ H' dd, Same H H' → H' dd = none → E (.ref CD) (some dd) (upd H' dd (.xd [("value", v)]))))
theorem G_longest_period (T : Top K mg) : FnOk P w K mg base (L2.CX P w) 6 T.f_longest_period T.fd_longest_period ["depth", "weights"] (sp_longest_period K T.C_InvalidDepth T.C_InvalidWeights) := by
  refine T.F_longest_period.ok (CX := L2.CX P w) sc_longest_period (fun vs H Q E h => by obtain ⟨v, u, rfl, _⟩ := h; rfl) (fun cdv A outer s H vs Q E hr h => ?_)
  obtain ⟨v, u, rfl, h⟩ := h
  refine ⟨_, (pss_cons (ps_expr (pe_call (G_check_depth (P := P) T) (hr.mono (by decide)) (by rfl) T.g_check_depth T.F_check_depth.kp T.b0_check_depth T.v0_check_depth (passes_call (takes_of rfl rfl rfl rfl) (fun _ _ _ _ h => h)) (pa_cons (pv 0) pa_nil)))
  (pss_cons (ps_expr (pe_call (G_check_rule (P := P) T) (hr.mono (by decide)) (by rfl) T.g_check_rule T.F_check_rule.kp T.b_check_rule .nil (passes_call (takes_of rfl rfl rfl rfl) (fun _ _ _ _ h => h)) (pa_cons (pv 1) pa_nil)))
  (pss_one (ps_ret (pe_call (G_period_of (P := P) T) (hr.mono (by decide)) (by rfl) T.g_period_of T.F_period_of.kp T.b_period_of .nil pass0 (pa_cons (pv 0) (pa_cons (pv 1) (pa_cons (pe_call (G_last_alone (P := P) T) (hr.mono (by decide)) (by rfl) T.g_last_alone T.F_last_alone.kp T.b_last_alone .nil pass0 (pa_cons (pv 1) pa_nil)) pa_nil)))))))), ?_⟩
  have dok : ∀ {H : Hp} {d : Nat}, 1 ≤ d → d ≤ 24 → NumV K H (.int (d : Int)) 1 (some 24) true := fun d1 d2 => .inl ⟨_, rfl, (decide_eq_true ⟨by omega, fun j e => by cases e; omega⟩).symm⟩
  rcases h with ⟨d, rfl, d1, d2, ⟨a, ws, rfl, ha, gw, q⟩ | ⟨hu, q⟩⟩ | ⟨hv, q⟩
  · refine ⟨_, rfl, _, 24, true, rfl, dok d1 d2, fun _ => ?_, fun z => nomatch z⟩
    refine ⟨_, rfl, _, rfl, .inl ⟨a, ws, rfl, ha, gw, fun H1 s1 => ?_⟩⟩
    refine ⟨_, rfl, _, rfl, _, rfl, a, ws, rfl, s1 _ _ ha, gw.1, fun H2 e es s2 ne he hel hal hsm => ?_⟩
    have s02 := s1.trans s2
    exact ⟨a, e, d, ws, es, rfl, ⟨s02 _ _ ha, he, gw, hel, d1, d2, hsm d d1⟩, fun H3 t hd p s3 ht hp h1 h2 => q _ t hd p es (s02.trans s3) ht hel hal (hsm d d1) hp h1 h2⟩
  · refine ⟨_, rfl, _, 24, true, rfl, dok d1 d2, fun _ => ?_, fun z => nomatch z⟩
    exact ⟨_, rfl, _, rfl, .inr ⟨hu, q⟩⟩
  · exact ⟨_, rfl, _, 24, false, rfl, hv, (fun z => nomatch z), fun _ dd nd => q H dd (Same.refl _) nd⟩
end
end My

namespace My
/-! ### firsts that return, counted -/
def Ret (d : Nat) (ws : List Int) (n : Nat) (fs : List Int) : Prop := fs.length = ws.length ∧ Smp d fs ∧ stL (2 ^ (d - 1)) ws fs n = fs
def wrL (h : Int) (x : List Int) : List Int := x.map fun e => (e + h) % (2 * h) - h
theorem wr_dvd (h e : Int) : 2 * h ∣ ((e + h) % (2 * h) - h) - e := by
  have := Int.mul_ediv_add_emod (e + h) (2 * h)
  exact ⟨-((e + h) / (2 * h)), by rw [Int.mul_neg]; omega⟩
theorem wrL_get (h : Int) (x : List Int) {j : Nat} (hj : j < x.length) : (wrL h x).getD j 0 = (x.getD j 0 + h) % (2 * h) - h := by
  unfold wrL
  rw [List.getD_eq_getElem?_getD, List.getElem?_map, List.getD_eq_getElem?_getD, List.getElem?_eq_getElem hj]
  rfl
theorem ret_card {d : Nat} (d1 : 1 ≤ d) {ws : List Int} {n k : Nat} {M : Nat → Nat → Int} (hM : ∀ r : Nat → Int, Fol (2 ^ d) ws r → ∀ i, i < ws.length → (2 ^ d : Int) ∣ (sumN ws.length fun j => M i j * r j) - (r (n + i) - r i)) (hc : Card (Ker (2 ^ d) ws.length ws.length M) (2 ^ k)) : Card (Ret d ws n) (2 ^ k) := by
  have hh := half_pos d
  have h2 := two_half d1
  have hN : (0 : Int) < 2 ^ d := Int.pow_pos (by decide)
  have key : ∀ (x fs : List Int), x.length = ws.length → fs.length = ws.length → Smp d fs → (∀ j, j < ws.length → (2 ^ d : Int) ∣ fs.getD j 0 - x.getD j 0) → ((EqM (2 ^ d) ws.length 1 (mulM ws.length M (colV x)) fun _ _ => 0) ↔ stL (2 ^ (d - 1)) ws fs n = fs) := fun x fs lx lf hs hd => by
    have hF := goR_fol hh lf
    rw [h2] at hF
    have e0 : ∀ i, i < ws.length → (2 ^ d : Int) ∣ (mulM ws.length M (colV x) i 0) - (goR (2 ^ (d - 1)) ws fs (n + i) - goR (2 ^ (d - 1)) ws fs i) := fun i hi => by
      have h1 := hM _ hF i hi
      have h3 : (2 ^ d : Int) ∣ (sumN ws.length fun j => M i j * x.getD j 0) - sumN ws.length fun j => M i j * goR (2 ^ (d - 1)) ws fs j := by
        rw [sumN_sub]
        refine sumN_dvd fun j hj => ?_
        rw [← Int.mul_sub, goR_first (by omega)]
        refine Int.dvd_mul_of_dvd_right ?_
        have := Int.dvd_neg.mpr (hd j hj)
        rwa [Int.neg_sub] at this
      have := Int.dvd_add h3 h1
      rwa [show ∀ a b c : Int, a - b + (b - c) = a - c from fun a b c => by omega] at this
    have st : stL (2 ^ (d - 1)) ws fs n = fs ↔ ∀ i, i < ws.length → goR (2 ^ (d - 1)) ws fs (i + n) = goR (2 ^ (d - 1)) ws fs i := by
      constructor
      · intro e i hi
        have : (stL (2 ^ (d - 1)) ws fs n).getD i 0 = fs.getD i 0 := by rw [e]
        unfold stL at this
        rw [row_getD hi] at this
        rw [this, goR_first (by omega)]
      · intro e
        refine List.ext_getElem? fun i => ?_
        unfold stL
        rw [List.getElem?_map]
        by_cases hi : i < ws.length
        · have := e i hi
          rw [goR_first (i := i) (by omega), List.getD_eq_getElem?_getD, List.getElem?_eq_getElem (by omega)] at this
          rw [List.getElem?_range hi, List.getElem?_eq_getElem (by omega)]
          exact congrArg some this
        · rw [List.getElem?_eq_none (by rw [List.length_range]; omega), List.getElem?_eq_none (by omega)]
          rfl
    rw [st]
    constructor
    · intro h i hi
      refine near_eq (goR_range hh hs _) (goR_range hh hs _) ?_
      have a := e0 i hi
      have b : (2 ^ d : Int) ∣ mulM ws.length M (colV x) i 0 - 0 := h i 0 hi (by decide)
      rw [Int.sub_zero] at b
      have := Int.dvd_sub b a
      rw [show ∀ a b : Int, a - (a - b) = b from fun a b => by omega, Nat.add_comm n i] at this
      rw [h2]
      exact this
    · intro h i j hi hj
      obtain rfl : j = 0 := by omega
      have a := e0 i hi
      rw [Nat.add_comm n i, h i hi, Int.sub_self] at a
      exact a
  obtain ⟨l, l1, l2, l3⟩ := hc
  have wd : ∀ x : List Int, x.length = ws.length → ∀ j, j < ws.length → (2 ^ d : Int) ∣ (wrL (2 ^ (d - 1)) x).getD j 0 - x.getD j 0 := fun x hx j hj => by
    rw [wrL_get _ _ (by omega), ← h2]
    exact wr_dvd _ _
  have ws' : ∀ x : List Int, Smp d (wrL (2 ^ (d - 1)) x) := fun x e he => by
    unfold wrL at he
    obtain ⟨y, _, rfl⟩ := List.mem_map.mp he
    have a := Int.emod_nonneg (y + 2 ^ (d - 1)) (show (2 : Int) * 2 ^ (d - 1) ≠ 0 by omega)
    have b := Int.emod_lt_of_pos (y + 2 ^ (d - 1)) (show (0 : Int) < 2 * 2 ^ (d - 1) by omega)
    omega
  have wl : ∀ x : List Int, (wrL (2 ^ (d - 1)) x).length = x.length := fun x => List.length_map _
  refine ⟨l.map (wrL (2 ^ (d - 1))), nodup_map l1 fun x hx y hy e => ?_, fun fs => ?_, by rw [List.length_map, l3]⟩
  · have kx := ((l2 x).mp hx).1
    have ky := ((l2 y).mp hy).1
    refine col_inj kx ky fun i j hi hj => ?_
    have a := wd x kx.1 i hi
    have b := wd y ky.1 i hi
    rw [e] at a
    have := Int.dvd_sub b a
    rwa [show ∀ a b c : Int, a - b - (a - c) = c - b from fun a b c => by omega] at this
  · rw [List.mem_map]
    constructor
    · rintro ⟨x, hx, rfl⟩
      have kx := (l2 x).mp hx
      exact ⟨by rw [wl, kx.1.1], ws' x, (key x _ kx.1.1 (by rw [wl, kx.1.1]) (ws' x) (wd x kx.1.1)).mp kx.2⟩
    · rintro ⟨hl, hs, hr⟩
      have hx1 : (fs.map fun e => e % 2 ^ d).length = ws.length := by rw [List.length_map, hl]
      have hxd : ∀ j, j < ws.length → (2 ^ d : Int) ∣ fs.getD j 0 - (fs.map fun e => e % 2 ^ d).getD j 0 := fun j hj => by
        rw [List.getD_eq_getElem?_getD, List.getElem?_eq_getElem (by omega), List.getD_eq_getElem?_getD, List.getElem?_map, List.getElem?_eq_getElem (by omega)]
        exact mod_sub
      refine ⟨fs.map fun e => e % 2 ^ d, (l2 _).mpr ⟨⟨hx1, fun e he => ?_⟩, (key _ fs hx1 hl hs hxd).mpr hr⟩, ?_⟩
      · obtain ⟨y, _, rfl⟩ := List.mem_map.mp he
        exact mod_in hN
      · refine List.ext_getElem (by rw [wl, hx1, hl]) fun i h1 h3 => ?_
        have hi : i < ws.length := by omega
        have a := wd _ hx1 i hi
        have b := hxd i hi
        have g1 : (wrL (2 ^ (d - 1)) (fs.map fun e => e % 2 ^ d)).getD i 0 = (wrL (2 ^ (d - 1)) (fs.map fun e => e % 2 ^ d))[i] := by rw [List.getD_eq_getElem?_getD, List.getElem?_eq_getElem h1]; rfl
        have g2 : fs.getD i 0 = fs[i] := by rw [List.getD_eq_getElem?_getD, List.getElem?_eq_getElem h3]; rfl
        have := Int.dvd_sub a b
        rw [show ∀ a b c : Int, a - b - (c - b) = a - c from fun a b c => by omega, g1, g2] at this
        exact near_eq (ws' _ _ (List.getElem_mem h1)) (hs _ (List.getElem_mem h3)) (Int.dvd_trans (by rw [h2]; exact Int.dvd_refl _) this)
end My

namespace My
/-! ### what returns returns again -/
theorem st_zero {d : Nat} {ws fs : List Int} (hl : fs.length = ws.length) : stL (2 ^ (d - 1)) ws fs 0 = fs := by
  refine List.ext_getElem? fun i => ?_
  unfold stL
  rw [List.getElem?_map]
  by_cases c : i < ws.length
  · rw [List.getElem?_range c, Option.map_some, Nat.add_zero, goR_first (by omega), List.getD_eq_getElem?_getD, List.getElem?_eq_getElem (by omega)]
    rfl
  · rw [List.getElem?_eq_none (by rw [List.length_range]; omega), List.getElem?_eq_none (by omega)]
    rfl
theorem Ret.times {d : Nat} {ws : List Int} {n : Nat} {fs : List Int} (h : Ret d ws n fs) (t : Nat) : Ret d ws (n * t) fs := by
  refine ⟨h.1, h.2.1, ?_⟩
  have hN := st_next (half_pos d) h.1 h.2.1
  have e : stL (2 ^ (d - 1)) ws fs (0 + n) = stL (2 ^ (d - 1)) ws fs 0 := by rw [Nat.zero_add, st_zero h.1]; exact h.2.2
  have := hN.times e t
  rw [Nat.zero_add, st_zero h.1] at this
  exact this
theorem ret_dvd {d : Nat} {ws : List Int} {n t a b : Nat} (ha : Card (Ret d ws n) (2 ^ a)) (hb : Card (Ret d ws (n * t)) (2 ^ b)) : 2 ^ a ∣ 2 ^ b := by
  have := ha.le hb id (fun fs h => h.times t) fun _ _ _ _ e => e
  exact Nat.pow_dvd_pow 2 ((Nat.pow_le_pow_iff_right (by decide)).mp this)
/-- from a length that all periods divide on just those without a head return -/
theorem ret_head {d : Nat} {ws fs : List Int} (hl : fs.length = ws.length) (hs : Smp d fs) {L hd p : Nat} (P : Per (stL (2 ^ (d - 1)) ws fs) hd p) (L1 : 1 ≤ L) (hp : p ∣ L) : Ret d ws L fs ↔ hd = 0 := by
  have hN := st_next (half_pos d) hl hs
  constructor
  · intro h
    have e : stL (2 ^ (d - 1)) ws fs (0 + L) = stL (2 ^ (d - 1)) ws fs 0 := by rw [Nat.zero_add, st_zero hl]; exact h.2.2
    have := (P.2.2 0 L L1 e).1
    omega
  · rintro rfl
    obtain ⟨k, rfl⟩ := hp
    have := hN.times P.2.1 k
    rw [Nat.zero_add, st_zero hl] at this
    exact ⟨hl, hs, this⟩
end My

namespace My
/-! ### rows without a head: as many as lists of the odd part's length -/
theorem card_pair {α β : Type} {P : α → Prop} {Q : β → Prop} {n m : Nat} (hp : Card P n) (hq : Card Q m) : Card (fun z : α × β => P z.1 ∧ Q z.2) (n * m) := by
  obtain ⟨l, l1, l2, rfl⟩ := hp
  obtain ⟨k, k1, k2, rfl⟩ := hq
  refine ⟨l.flatMap fun x => k.map fun r => (x, r), ?_, fun z => ?_, ?_⟩
  · clear l2
    induction l with
    | nil => exact List.nodup_nil
    | cons x r ih =>
      have h' := List.nodup_cons.mp l1
      rw [List.flatMap_cons, List.nodup_append]
      refine ⟨nodup_map k1 fun a _ b _ e => (Prod.mk.inj e).2, ih h'.2, fun a ha b hb e => ?_⟩
      obtain ⟨r1, _, rfl⟩ := List.mem_map.mp ha
      obtain ⟨y, hy, hm⟩ := List.mem_flatMap.mp hb
      obtain ⟨r2, _, rfl⟩ := List.mem_map.mp hm
      exact h'.1 (by rw [(Prod.mk.inj e).1]; exact hy)
  · rw [List.mem_flatMap]
    constructor
    · rintro ⟨x, hx, hz⟩
      obtain ⟨r, hr, rfl⟩ := List.mem_map.mp hz
      exact ⟨(l2 x).mp hx, (k2 r).mp hr⟩
    · rintro ⟨hx, hr⟩
      exact ⟨z.1, (l2 _).mpr hx, List.mem_map.mpr ⟨z.2, (k2 _).mpr hr, rfl⟩⟩
  · clear l1 l2
    induction l with
    | nil => simp
    | cons x r ih => rw [List.flatMap_cons, List.length_append, ih, List.length_map, List.length_cons, Nat.succ_mul, Nat.add_comm]
theorem card_smp {d : Nat} (d1 : 1 ≤ d) : ∀ n, Card (fun l : List Int => l.length = n ∧ Smp d l) (2 ^ (d * n))
  | 0 => card_nil.iff fun l => ⟨fun h => by subst h; exact ⟨rfl, fun x hx => by cases hx⟩, fun h => List.length_eq_zero_iff.mp h.1⟩
  | n + 1 => by
    have e : (2 : Nat) ^ (d * (n + 1)) = 2 ^ d * 2 ^ (d * n) := by rw [← Nat.pow_add]; congr 1; rw [Nat.mul_succ, Nat.add_comm]
    rw [e]
    refine (card_cons (card_span (-2 ^ (d - 1)) (2 ^ d)) (card_smp d1 n)).iff fun l => ?_
    have h2 := two_half d1
    have hc : (((2 ^ d : Nat) : Nat) : Int) = 2 ^ d := Int.natCast_pow 2 d
    rw [hc]
    constructor
    · rintro ⟨x, r, rfl, hx, hr, hs⟩
      refine ⟨by rw [List.length_cons, hr], fun y hy => ?_⟩
      rcases List.mem_cons.mp hy with rfl | hy
      · omega
      · exact hs y hy
    · rintro ⟨hl, hs⟩
      cases l with
      | nil => cases hl
      | cons x r =>
        refine ⟨x, r, rfl, ?_, by simpa using hl, fun y hy => hs y (List.mem_cons_of_mem _ hy)⟩
        have := hs x List.mem_cons_self
        omega
theorem Fol.half {d : Nat} {ws : List Int} {r : Nat → Int} (hr : Fol (2 ^ (d + 1)) ws r) (h2 : ∀ i, 2 ∣ r i) : Fol (2 ^ d) ws fun i => r i / 2 := fun i => by
  have e := hr i
  have er : ∀ i, r i = 2 * (r i / 2) := fun i => by have := h2 i; omega
  have e3 : r (i + ws.length) - sumN ws.length (fun b => ws.getD b 0 * r (i + ws.length - 1 - b)) = 2 * (r (i + ws.length) / 2 - sumN ws.length fun b => ws.getD b 0 * (r (i + ws.length - 1 - b) / 2)) := by
    rw [Int.mul_sub, ← er, ← sumN_mul]
    congr 1
    refine sumN_congr fun b _ => ?_
    rw [Int.mul_left_comm, ← er]
  rw [e3, Int.pow_succ, Int.mul_comm _ 2] at e
  exact Int.dvd_of_mul_dvd_mul_left (by decide) e
theorem twice_dvd {d : Nat} {x : Int} (h2 : 2 ∣ x) : (2 ^ (d + 1) : Int) ∣ x ↔ (2 ^ d : Int) ∣ x / 2 := by
  have e : x = 2 * (x / 2) := by omega
  rw [Int.pow_succ, Int.mul_comm _ 2]
  constructor
  · intro h
    rw [e] at h
    exact Int.dvd_of_mul_dvd_mul_left (by decide) h
  · intro h
    rw [e]
    exact Int.mul_dvd_mul_left _ h
theorem two_dvd (d : Nat) : (2 : Int) ∣ 2 ^ (d + 1) := ⟨2 ^ d, by rw [Int.pow_succ, Int.mul_comm]⟩
section
variable {ws : List Int} {n : Nat} (hn : n ≤ ws.length) (he : ∀ b, n ≤ b → b < ws.length → 2 ∣ ws.getD b 0)
include hn he
theorem round_two {L : Nat} (L1 : 1 ≤ L) {r : Nat → Int} (hr : Fol 2 ws r) (hp : ∀ i, 2 ∣ r (i + L) - r i) (h0 : ∀ i, i < n → 2 ∣ r i) (i : Nat) : 2 ∣ r i := by
  have hm : ∀ k i, 2 ∣ r (i + L * k) - r i := fun k => by
    induction k with
    | zero => intro i; rw [Nat.mul_zero, Nat.add_zero, Int.sub_self]; exact Int.dvd_zero _
    | succ k ih =>
      intro i
      have a := ih i
      have b := hp (i + L * k)
      rw [Nat.mul_succ, ← Nat.add_assoc]
      omega
  induction i using Nat.strongRecOn with
  | ind i ih =>
    by_cases c : i < n
    · exact h0 i c
    · have far : ws.length ≤ L * ws.length := Nat.le_mul_of_pos_left _ L1
      have h := hr (i + L * ws.length - ws.length)
      rw [show i + L * ws.length - ws.length + ws.length = i + L * ws.length by omega] at h
      have h3 : (2 : Int) ∣ sumN ws.length fun b => ws.getD b 0 * r (i + L * ws.length - 1 - b) := sumN_dvd fun b hb => by
        by_cases cb : b < n
        · refine Int.dvd_mul_of_dvd_right ?_
          have a := hm ws.length (i - 1 - b)
          have b' := ih (i - 1 - b) (by omega)
          rw [show i + L * ws.length - 1 - b = i - 1 - b + L * ws.length by omega]
          omega
        · exact Int.dvd_mul_of_dvd_left (he b (by omega) hb)
      have a := Int.dvd_add h h3
      rw [Int.sub_add_cancel] at a
      have := hm ws.length i
      omega
theorem round_none {L : Nat} (L1 : 1 ≤ L) : ∀ (d : Nat) {r : Nat → Int}, Fol (2 ^ d) ws r → (∀ i, (2 ^ d : Int) ∣ r (i + L) - r i) → (∀ i, i < n → (2 ^ d : Int) ∣ r i) → ∀ i, (2 ^ d : Int) ∣ r i
  | 0, r, _, _, _, i => by rw [Int.pow_zero]; exact Int.one_dvd _
  | d + 1, r, hr, hp, h0, i => by
    have all : ∀ i, 2 ∣ r i := round_two hn he L1 (hr.mono (two_dvd d)) (fun i => Int.dvd_trans (two_dvd d) (hp i)) fun i hi => Int.dvd_trans (two_dvd d) (h0 i hi)
    refine (twice_dvd (all i)).mpr (round_none L1 d (hr.half all) (fun j => ?_) (fun j hj => (twice_dvd (all j)).mp (h0 j hj)) i)
    have a := all (j + L)
    have b := all j
    have := (twice_dvd (Int.dvd_sub a b)).mp (hp j)
    rwa [show (r (j + L) - r j) / 2 = r (j + L) / 2 - r j / 2 by omega] at this
theorem far_none (ho : 0 < n → ¬ 2 ∣ ws.getD (n - 1) 0) {far : Nat} : ∀ (d : Nat) {r : Nat → Int}, Fol (2 ^ d) ws r → (∀ i, far ≤ i → (2 ^ d : Int) ∣ r i) → (∀ i, i < ws.length - n → (2 ^ d : Int) ∣ r i) → ∀ i, (2 ^ d : Int) ∣ r i
  | 0, r, _, _, _, i => by rw [Int.pow_zero]; exact Int.one_dvd _
  | d + 1, r, hr, hp, h0, i => by
    have all : ∀ i, 2 ∣ r i := fun i => by
      by_cases c : i < ws.length - n
      · exact Int.dvd_trans (two_dvd d) (h0 i c)
      · exact back_one hn he ho (hr.mono (two_dvd d)) (far := far) (fun i h => Int.dvd_trans (two_dvd d) (hp i h)) i (by omega)
    exact (twice_dvd (all i)).mpr (far_none ho d (hr.half all) (fun j hj => (twice_dvd (all j)).mp (hp j hj)) (fun j hj => (twice_dvd (all j)).mp (h0 j hj)) i)
end
theorem Fol.minus {N : Int} {w : List Int} {u v : Nat → Int} (hu : Fol N w u) (hv : Fol N w v) : Fol N w fun j => u j - v j := by
  have := hu.plus hv (-1)
  rwa [show (fun j => u j + -1 * v j) = fun j => u j - v j from funext fun j => by omega] at this
theorem eq_of_alike {d : Nat} (d1 : 1 ≤ d) {ws fs gs : List Int} (hl : fs.length = ws.length) (hs : Smp d fs) (kl : gs.length = ws.length) (ks : Smp d gs) (h : ∀ i, (2 ^ d : Int) ∣ goR (2 ^ (d - 1)) ws fs i - goR (2 ^ (d - 1)) ws gs i) : fs = gs := by
  refine List.ext_getElem (by omega) fun i h1 h2 => ?_
  have a := h i
  rw [goR_first h1, goR_first h2, List.getD_eq_getElem?_getD, List.getElem?_eq_getElem h1, List.getD_eq_getElem?_getD, List.getElem?_eq_getElem h2, ← two_half d1] at a
  exact near_eq (hs _ (List.getElem_mem h1)) (ks _ (List.getElem_mem h2)) a
theorem take_get {l k : List Int} {n i : Nat} (e : l.take n = k.take n) (hi : i < n) : l.getD i 0 = k.getD i 0 := by
  have : (l.take n)[i]? = (k.take n)[i]? := by rw [e]
  rw [List.getElem?_take, List.getElem?_take, if_pos hi, if_pos hi] at this
  rw [List.getD_eq_getElem?_getD, List.getD_eq_getElem?_getD, this]
theorem take_ok {d : Nat} {l : List Int} {n m : Nat} (hl : l.length = m) (h : n ≤ m) (hs : Smp d l) : (l.take n).length = n ∧ Smp d (l.take n) := ⟨by rw [List.length_take, hl]; omega, fun x hx => hs x (List.mem_of_mem_take hx)⟩
theorem Ret.row {d : Nat} {ws fs : List Int} {L : Nat} (h : Ret d ws L fs) (h0 : 0 < ws.length) (i : Nat) : goR (2 ^ (d - 1)) ws fs (i + L) = goR (2 ^ (d - 1)) ws fs i := by
  have hN := st_next (half_pos d) h.1 h.2.1
  have e : stL (2 ^ (d - 1)) ws fs (0 + L) = stL (2 ^ (d - 1)) ws fs 0 := by rw [Nat.zero_add, st_zero h.1]; exact h.2.2
  have := stL_eq.mp (hN.on e i) 0 h0
  rwa [show 0 + (0 + L + i) = i + L by omega, show 0 + (0 + i) = i by omega] at this
theorem head_card {d : Nat} (d1 : 1 ≤ d) {ws : List Int} {n : Nat} (hn : n ≤ ws.length) (he : ∀ b, n ≤ b → b < ws.length → 2 ∣ ws.getD b 0) (ho : 0 < n → ¬ 2 ∣ ws.getD (n - 1) 0) {L far k : Nat} (L1 : 1 ≤ L) (hL : ∀ fs, fs.length = ws.length → Smp d fs → stL (2 ^ (d - 1)) ws fs (far + L) = stL (2 ^ (d - 1)) ws fs far) (hc : Card (Ret d ws L) (2 ^ k)) : k = d * n := by
  have hh := half_pos d
  have h2 := two_half d1
  have hF : ∀ fs : List Int, fs.length = ws.length → Fol (2 ^ d) ws (goR (2 ^ (d - 1)) ws fs) := fun fs hl => by
    have := goR_fol hh hl
    rwa [h2] at this
  refine Nat.le_antisymm ((Nat.pow_le_pow_iff_right (by decide)).mp (hc.le (card_smp d1 n) (fun fs => fs.take n) (fun fs h => take_ok h.1 hn h.2.1) fun fs gs hf hg e => ?_)) ?_
  · by_cases h0 : 0 < ws.length
    · refine eq_of_alike d1 hf.1 hf.2.1 hg.1 hg.2.1 (round_none hn he L1 d ((hF fs hf.1).minus (hF gs hg.1)) (fun i => ?_) fun i hi => ?_)
      · rw [hf.row h0, hg.row h0, Int.sub_self]
        exact Int.dvd_zero _
      · rw [goR_first (by have := hf.1; omega), goR_first (by have := hg.1; omega), take_get e hi, Int.sub_self]
        exact Int.dvd_zero _
    · rw [List.length_eq_zero_iff.mp (show fs.length = 0 by have := hf.1; omega), List.length_eq_zero_iff.mp (show gs.length = 0 by have := hg.1; omega)]
  · have fF : far ≤ L * far := Nat.le_mul_of_pos_left _ L1
    have := (card_smp d1 ws.length).le (card_pair hc (card_smp d1 (ws.length - n))) (fun fs => (stL (2 ^ (d - 1)) ws fs (L * far), fs.take (ws.length - n))) (fun fs h => ⟨⟨stL_len _ _ _ _, fun x hx => ?_, ?_⟩, take_ok h.1 (Nat.sub_le _ _) h.2⟩) fun fs gs hf hg e => ?_
    · rw [← Nat.pow_add] at this
      have := (Nat.pow_le_pow_iff_right (by decide)).mp this
      have e : d * ws.length = d * n + d * (ws.length - n) := by rw [← Nat.mul_add]; congr 1; omega
      omega
    · unfold stL at hx
      obtain ⟨l, _, rfl⟩ := List.mem_map.mp hx
      exact goR_range hh h.2 _
    · have hN := st_next hh h.1 h.2
      have hb := hN.behind (hL fs h.1 h.2) fF
      refine Eq.trans ?_ hb
      unfold stL
      refine List.map_congr_left fun l hl => ?_
      have := goR_of hh (stL_len (2 ^ (d - 1)) ws fs (L * far)) (r := fun i => goR (2 ^ (d - 1)) ws fs (i + L * far)) (fun i => ?_) (fun i => goR_range hh h.2 _) (fun i hi => ?_) (l + L)
      · refine this.trans ?_
        show goR _ ws fs (l + L + L * far) = _
        rw [show l + L + L * far = l + (L * far + L) by omega]
      · have := goR_fol hh h.1 (i + L * far)
        show _ ∣ goR _ ws fs (i + ws.length + L * far) - sumN ws.length fun b => ws.getD b 0 * goR _ ws fs (i + ws.length - 1 - b + L * far)
        rw [show i + ws.length + L * far = i + L * far + ws.length by omega, sumN_congr (g := fun b => ws.getD b 0 * goR (2 ^ (d - 1)) ws fs (i + L * far + ws.length - 1 - b)) fun b hb => by rw [show i + ws.length - 1 - b + L * far = i + L * far + ws.length - 1 - b by omega]]
        exact this
      · unfold stL
        exact row_getD hi _
    · obtain ⟨e1, e2⟩ := Prod.mk.inj e
      have hr := (hF fs hf.1).minus (hF gs hg.1)
      refine eq_of_alike d1 hf.1 hf.2 hg.1 hg.2 (far_none hn he ho (far := L * far) d hr (fol_zero hr fun t ht => ?_) fun i hi => ?_)
      · have : (stL (2 ^ (d - 1)) ws fs (L * far)).getD t 0 = (stL (2 ^ (d - 1)) ws gs (L * far)).getD t 0 := by rw [e1]
        unfold stL at this
        rw [row_getD ht, row_getD ht] at this
        rw [Nat.add_comm (L * far) t, this, Int.sub_self]
        exact Int.dvd_zero _
      · rw [goR_first (by have := hf.1; omega), goR_first (by have := hg.1; omega), take_get e2 hi, Int.sub_self]
        exact Int.dvd_zero _
end My

namespace My
open PySem PySem.Spec PyProof.Rows L2 Pre
/-! ### all lists of samples, in order -/
theorem ints_inj {a b : List Int} (h : a.map V.int = b.map V.int) : a = b := by
  induction a generalizing b with
  | nil => cases b with
    | nil => rfl
    | cons y r => cases h
  | cons x r ih =>
    cases b with
    | nil => cases h
    | cons y s =>
      have h1 := List.cons.inj (show V.int x :: r.map V.int = V.int y :: s.map V.int from h)
      rw [V.int.inj h1.1, ih h1.2]
def LkOk (l : List Int) (D : Addr) (y : V) (H : Hp) : Prop := ∃ a : Addr, y = .ref a ∧ a ≠ D ∧ H a = some (.lst (l.map V.int))
theorem LkOk.mono {l : List Int} {D : Addr} {y : V} {H H' : Hp} (o : Off D H H') (h : LkOk l D y H) : LkOk l D y H' := by
  obtain ⟨a, e, ne, ha⟩ := h
  exact ⟨a, e, ne, o _ _ ne ha⟩
/-- all lists of samples of a length, in order -/
def allS (d : Nat) : Nat → List (List Int)
  | 0 => [[]]
  | t + 1 => (allS d t).flatMap fun l => (List.range (2 ^ d)).map fun i : Nat => l ++ [-(2 ^ (d - 1)) + (i : Int)]
theorem allS_mem {d : Nat} (d1 : 1 ≤ d) : ∀ {t : Nat} {l : List Int}, l ∈ allS d t ↔ l.length = t ∧ Smp d l
  | 0, l => by
    show l ∈ [[]] ↔ _
    rw [List.mem_singleton]
    exact ⟨fun e => by subst e; exact ⟨rfl, fun _ h => nomatch h⟩, fun h => List.length_eq_zero_iff.mp h.1⟩
  | t + 1, l => by
    have h2 := two_half d1
    have hc : ((2 ^ d : Nat) : Int) = 2 ^ d := Int.natCast_pow 2 d
    show l ∈ List.flatMap _ _ ↔ _
    rw [List.mem_flatMap]
    constructor
    · rintro ⟨k, hk, hl⟩
      obtain ⟨i, hi, rfl⟩ := List.mem_map.mp hl
      have hi' := List.mem_range.mp hi
      obtain ⟨k1, k2⟩ := (allS_mem d1).mp hk
      refine ⟨by rw [List.length_append, k1]; rfl, fun x hx => ?_⟩
      rcases List.mem_append.mp hx with hx | hx
      · exact k2 x hx
      · rw [List.mem_singleton.mp hx]
        omega
    · rintro ⟨hl, hs⟩
      have ht : t < l.length := by omega
      have e : l.take t ++ [l[t]] = l := by
        rw [List.take_append_getElem ht]
        exact List.take_of_length_le (by omega)
      have hx := hs _ (List.getElem_mem ht)
      refine ⟨l.take t, (allS_mem d1).mpr ⟨by rw [List.length_take]; omega, fun x hx => hs x (List.mem_of_mem_take hx)⟩, List.mem_map.mpr ⟨(l[t] + 2 ^ (d - 1)).toNat, List.mem_range.mpr (by omega), ?_⟩⟩
      rw [show -(2 ^ (d - 1)) + (((l[t] + 2 ^ (d - 1)).toNat : Nat) : Int) = l[t] by omega, e]
theorem allS_nodup (d : Nat) : ∀ t, (allS d t).Nodup
  | 0 => by simp [allS]
  | t + 1 => by
    show (List.flatMap _ _).Nodup
    have ih := allS_nodup d t
    generalize allS d t = L at *
    induction L with
    | nil => exact List.nodup_nil
    | cons x r ih2 =>
      have h' := List.nodup_cons.mp ih
      rw [List.flatMap_cons, List.nodup_append]
      refine ⟨nodup_map List.nodup_range fun a _ b _ e => ?_, ih2 h'.2, fun a ha b hb e => ?_⟩
      · have := (List.cons.inj (List.append_cancel_left e)).1
        omega
      · obtain ⟨i, _, rfl⟩ := List.mem_map.mp ha
        obtain ⟨y, hy, hm⟩ := List.mem_flatMap.mp hb
        obtain ⟨j, _, rfl⟩ := List.mem_map.mp hm
        exact h'.1 (by rw [(List.append_inj' e rfl).1]; exact hy)
theorem allS_len (d : Nat) : ∀ t, (allS d t).length = 2 ^ (d * t)
  | 0 => rfl
  | t + 1 => by
    show (List.flatMap _ _).length = _
    rw [List.length_flatMap, Nat.mul_succ, Nat.pow_add, ← allS_len d t]
    generalize allS d t = L
    induction L with
    | nil => simp
    | cons x r ih => rw [List.map_cons, List.sum_cons, ih, List.length_map, List.length_range, List.length_cons, Nat.succ_mul, Nat.add_comm]
/-- lists in a heap -/
def LsE (Ls : List (List Int)) (H : Hp) (xs : List V) : Prop := xs.length = Ls.length ∧ ∀ (j : Nat) (y : V), xs[j]? = some y → ∃ (a : Addr) (l : List Int), y = .ref a ∧ Ls[j]? = some l ∧ H a = some (.lst (l.map V.int))
theorem LsE.mono {Ls : List (List Int)} {H H' : Hp} {xs : List V} (h : LsE Ls H xs) (s : Same H H') : LsE Ls H' xs := ⟨h.1, fun j y hj => by
  obtain ⟨a, l, e, hl, ha⟩ := h.2 j y hj
  exact ⟨a, l, e, hl, s _ _ ha⟩⟩
theorem LsE.app {Ls Ks : List (List Int)} {H : Hp} {xs ys : List V} (h : LsE Ls H xs) (k : LsE Ks H ys) : LsE (Ls ++ Ks) H (xs ++ ys) := ⟨by rw [List.length_append, List.length_append, h.1, k.1], fun j y hj => by
  by_cases c : j < xs.length
  · rw [List.getElem?_append_left c] at hj
    obtain ⟨a, l, e, hl, ha⟩ := h.2 j y hj
    exact ⟨a, l, e, by rw [List.getElem?_append_left (by rw [← h.1]; exact c)]; exact hl, ha⟩
  · rw [List.getElem?_append_right (by omega)] at hj
    obtain ⟨a, l, e, hl, ha⟩ := k.2 _ y hj
    exact ⟨a, l, e, by rw [List.getElem?_append_right (by rw [← h.1]; omega), ← h.1]; exact hl, ha⟩⟩
local macro_rules | `(tactic| walk_at "go") => `(tactic| repeat (first | (with_reducible first | refine iteT ?_ | refine iteF ?_ | refine iteNtt ?_ | refine iteNff ?_ | refine iteET (by omega) ?_ | refine iteEF (by omega) ?_ | refine iteENT (by omega) ?_ | refine iteENF (by omega) ?_ | refine iteDT (by omega) ?_ | refine iteDF (by omega) ?_ | refine iteNT (by omega) ?_ | refine iteNF (by omega) ?_) | refine ⟨_, rfl, ?_⟩ | refine ⟨_, _, rfl, rfl, ?_⟩ | refine ⟨_, _, rfl, ?_⟩ | refine ⟨rfl, ?_⟩ | refine .inl ⟨_, rfl, ?_⟩ | refine .inr ⟨_, rfl, ?_⟩))
local macro_rules | `(tactic| walk_at "b") => `(tactic| try dsimp (config := { proj := false, iota := false, eta := false, zeta := false }) only)
section
variable {P : Program} {w : World} {K : PySem.W.Frag} {mg : Str → Option Value} {base : Heap} [pf : Sup.PF P fileS]
def sp_law_small : Sp := fun vs H Q _ => ∃ (g : Addr) (n m : Nat), vs = [.ref g, .int m] ∧ GenAt H g n ∧ n ≤ 10 ^ 9 ∧ m ≤ 10 ∧ ∀ (H' : Hp) (p : Addr) (ys : List Int), But g H H' → H p = none → p ≠ g → GenAt H' g (n + 1000) → H' p = some (.lst (ys.map V.int)) → ys.length = m → (∀ y ∈ ys, y.natAbs ≤ 3) → Q (.ref p) H'
theorem G_law_small (T : Top K mg) : FnOk P w K mg base CX0 3 T.f_law_small T.fd_law_small ["_law_generator_here", "_law_many"] sp_law_small := by
  refine T.F_law_small.ok sc_law_small (fun vs H Q E h => by obtain ⟨g, n, m, rfl, _⟩ := h; rfl) (fun cdv A outer s H vs Q E hr h => ?_)
  obtain ⟨g, n, m, rfl, hG, hn, hm, q⟩ := h
  refine ⟨_, PSs.nox (pss_one (ps_ret (pe_lc (own := [("_law_turn", 2)]) (g := gName 2) (tt := tYes) (by rfl) sc_law_small.nd (pi_range1 (by rfl) T.n_range (pa_cons (pv 1) pa_nil)) (blkOk_by (own := [("_law_turn", 2)]) (N := N_law_small) (sc := defScope s_law_small) (by decide +kernel)) (fun _ _ _ _ _ => (pg_name (i := 2) sc_law_small.nd rfl (by first | exact Or.inl rfl | exact Or.inr rfl))) (fun _ _ _ _ _ => pts_nil) (fun _ _ _ _ _ => (pe_op op_sub (pe_call (G_law_random (P := P) T) (hr.mono (by decide)) (by rfl) T.g_law_random T.F_law_random.kp T.b_law_random .nil pass0 (pa_cons (pv 0) (pa_cons pe_int pa_nil))) pe_int))))), ?_⟩
  refine ⟨_, rfl, _, rfl, by omega, by omega, fun D nD => ?_⟩
  rw [Int.toNat_natCast]
  refine lc_drawR (lo := 0) (n := m) g n 100 (fun y => y.natAbs ≤ 3) nD hG (small4 (by omega)) (fun x => rfl) ?_ ?_
  · intro i H' hi b gi Qt qt
    refine ⟨_, rfl, g, _, _, rfl, gi, by omega, by decide, by decide +kernel, fun x H2 x0 x1 g2 b2 => ?_⟩
    refine ⟨_, _, rfl, rfl, ?_⟩
    exact qt _ _ (by omega) b2 (g2.mono (by omega))
  · intro H' ys b g1 hD hl hP
    exact q H' D ys b nD (hG.ne nD) (g1.mono (by omega)) hD hl hP
def sp_law_lists : Sp := fun vs H Q _ => ∃ d m : Nat, vs = [.int d, .int m] ∧ 1 ≤ d ∧ d * m < 9 ∧ ∀ H' p xs, Same H H' → H p = none → H' p = some (.lst xs) → LsE (allS d m) H' xs → Q (.ref p) H'
theorem G_law_lists (T : Top K mg) : FnOk P w K mg base CX0 1 T.f_law_lists T.fd_law_lists ["_law_depth", "_law_many"] sp_law_lists := by
  refine T.F_law_lists.ok sc_law_lists (fun vs H Q E h => by obtain ⟨d, m, rfl, _⟩ := h; rfl) (fun cdv A outer s H vs Q E hr h => ?_)
  obtain ⟨d, m, rfl, hd1, hdm, q⟩ := h
  refine ⟨_, PSs.nox (pss_cons (ps_set (i := 2) sc_law_lists.nd rfl (by first | exact Or.inl rfl | exact Or.inr rfl) (pe_lst (pa_cons (pe_lst pa_nil) pa_nil)))
  (pss_cons (ps_for PassesOwn.never rfl (pi_range1 (by rfl) T.n_range (pa_cons (pv 1) pa_nil)) (pg_name (i := 3) sc_law_lists.nd rfl (by first | exact Or.inl rfl | exact Or.inr rfl))
    (pss_cons (ps_set (i := 4) sc_law_lists.nd rfl (by first | exact Or.inl rfl | exact Or.inr rfl) (pe_lst pa_nil))
  (pss_cons (ps_for PassesOwn.never rfl (k_piL K rfl (pv 2)) (pg_name (i := 5) sc_law_lists.nd rfl (by first | exact Or.inl rfl | exact Or.inr rfl))
    (pss_one (ps_set (i := 4) sc_law_lists.nd rfl (by first | exact Or.inl rfl | exact Or.inr rfl) (pe_op op_cat (pv 4) (pe_lc (own := [("_law_sample", 6)]) (g := gName 6) (tt := tYes) (by rfl) sc_law_lists.nd (pi_range2 (by rfl) T.n_range (pa_cons (pe_un un_neg (pe_op op_shl pe_int (pe_op op_sub (pv 0) pe_int))) (pa_cons (pe_op op_shl pe_int (pe_op op_sub (pv 0) pe_int)) pa_nil))) (blkOk_by (own := [("_law_sample", 6)]) (N := N_law_lists) (sc := defScope s_law_lists) (by decide +kernel)) (fun _ _ _ _ _ => (pg_name (i := 6) sc_law_lists.nd rfl (by first | exact Or.inl rfl | exact Or.inr rfl))) (fun _ _ _ _ _ => pts_nil) (fun _ _ _ _ _ => (pe_op op_cat (pv 5) (pe_lst (pa_cons (pv 6) pa_nil)))))))))
  (pss_one (ps_set (i := 2) sc_law_lists.nd rfl (by first | exact Or.inl rfl | exact Or.inr rfl) (pv 4))))))
  (pss_one (ps_ret (pv 2))))), ?_⟩
  have hm : m ≤ 8 := by
    have := Nat.mul_le_mul hd1 (Nat.le_refl m)
    omega
  refine ⟨Nat.zero_le _, fun p0 np0 => ?_⟩
  obtain ⟨H1, e1, s1, hp0⟩ := fresh (.lst ([] : List V)) np0
  rw [e1]
  refine ⟨(by show 1 ≤ sizeLine; decide), fun p1 np1 => ?_⟩
  obtain ⟨H2, e2, s2, hp1⟩ := fresh (.lst [V.ref p0]) np1
  rw [e2]
  refine ⟨_, rfl, _, rfl, by omega, by omega, ?_⟩
  rw [Int.toNat_natCast]
  refine for_range (lo := 0) (n := m) (fun t σ H3 => ∃ (p : Addr) (v3 v4 v5 : Option V) (xs : List V), σ = [some (.int d), some (.int m), some (.ref p), v3, v4, v5, none] ∧ Same H H3 ∧ H p = none ∧ H3 p = some (.lst xs) ∧ LsE (allS d t) H3 xs) ⟨p1, none, none, none, [V.ref p0], rfl, s1.trans s2, s1.free np1, hp1, ⟨rfl, fun j y hj => ⟨p0, [], by cases j with | zero => cases hj; rfl | succ j => simp at hj, by cases j with | zero => rfl | succ j => simp at hj, s2 _ _ hp0⟩⟩⟩ ?_ ?_
  · rintro t σ H3 ht ⟨p, v3, v4, v5, xs, rfl, s3, np, hp, hx⟩
    have hdt : d * (t + 1) ≤ 8 := by
      have := Nat.mul_le_mul_left d (show t + 1 ≤ m from ht)
      omega
    have hpw : 2 ^ (d * t) * 2 ^ d ≤ 256 := by
      rw [← Nat.pow_add, ← Nat.mul_succ]
      exact Nat.pow_le_pow_right (by decide) hdt
    have hl : xs.length = 2 ^ (d * t) := by rw [hx.1, allS_len]
    have hd6 : d ≤ 8 := by
      have := Nat.mul_le_mul_left d (show 1 ≤ t + 1 by omega)
      omega
    have h2d : (2 : Int) * 2 ^ (d - 1) = ((2 ^ d : Nat) : Int) := by rw [two_half hd1, Int.natCast_pow]; rfl
    refine ⟨Nat.zero_le _, fun l0 nl0 => ?_⟩
    obtain ⟨H4, e4, s4, hl0⟩ := fresh (.lst ([] : List V)) nl0
    rw [e4]
    refine ⟨_, rfl, p, rfl, ⟨_, .inl (.inl (s4 _ _ hp))⟩, for_list (K := K) (a := p) (xs := xs) (fun i σ H5 => ∃ (l : Addr) (v5 : Option V) (zs : List V), σ = [some (.int d), some (.int m), some (.ref p), some (.int (0 + (t : Int))), some (.ref l), v5, none] ∧ Same H3 H5 ∧ H3 l = none ∧ H5 l = some (.lst zs) ∧ zs.length ≤ i * 2 ^ d ∧ LsE (((allS d t).take i).flatMap fun l => (List.range (2 ^ d)).map fun i : Nat => l ++ [-(2 ^ (d - 1)) + (i : Int)]) H5 zs) ⟨l0, v5, [], rfl, s4, nl0, hl0, Nat.zero_le _, ⟨rfl, fun j y hj => by simp at hj⟩⟩ (fun i σ H5 _ ⟨_, _, _, _, s5, _⟩ => .inl (.inl (s5 _ _ hp))) ?_ ?_⟩
    · rintro i x σ H5 hix ⟨l, v5, zs, rfl, s5, nl, hl5, hzl, hz5⟩
      obtain ⟨a, ys, rfl, hLj, ha⟩ := hx.2 i x hix
      have hyl : ys.length = t := ((allS_mem hd1).mp (List.mem_of_getElem? hLj)).1
      have hi : i < xs.length := (List.getElem?_eq_some_iff.mp hix).1
      have hzb : zs.length ≤ 256 := by
        have := Nat.mul_le_mul_right (2 ^ d) (show i ≤ 2 ^ (d * t) by omega)
        omega
      have ha5 := s5 _ _ ha
      refine ⟨_, rfl, _, rfl, _, _, rfl, rfl, _, _, rfl, rfl, ⟨by omega, by omega, by decide⟩, _, rfl, _, rfl, _, _, rfl, rfl, _, _, rfl, rfl, ⟨by omega, by omega, by decide⟩, ?_⟩
      walk_at "b"
      rw [show ((d : Int) - 1).toNat = d - 1 by omega, Int.one_mul]
      have hcap : (2 : Nat) ^ d ≤ 256 := Nat.pow_le_pow_right (by decide) (show d ≤ 8 from hd6)
      have hgp := half_pos d
      have etk : (allS d t).take (i + 1) = (allS d t).take i ++ [ys] := by rw [List.take_add_one, hLj]; rfl
      generalize eh : (2 : Int) ^ (d - 1) = h at *
      refine ⟨_, _, rfl, ⟨by omega, by omega, by omega, by omega⟩, fun D nD => ?_⟩
      rw [show (h - -h).toNat = 2 ^ d by omega]
      refine lc_relR (lo := -h) (n := 2 ^ d) (fun k y H => LkOk (ys ++ [-h + (k : Int)]) D y H) nD (small4 (by omega)) (fun _ _ _ _ o h => h.mono o) (fun x => rfl) ?_ ?_
      · intro k H6 ws hk s6 hD6 Qt qt
        refine ⟨_, rfl, _, rfl, (by show 1 ≤ sizeLine; decide), fun p2 np2 => ?_⟩
        obtain ⟨H7, e7, s7, hp2⟩ := fresh (.lst [V.int (-h + (k : Int))]) np2
        rw [e7]
        refine ⟨a, p2, _, _, rfl, rfl, s7 _ _ (s6 _ _ ha5), hp2, by rw [List.length_map, hyl, sizeLine_eq]; show _ + 1 ≤ _; omega, fun p3 np3 => ?_⟩
        refine qt _ _ (s7.trans (same_upd np3)) ⟨p3, rfl, (ne_of_none (s7 _ _ hD6) np3).symm, ?_⟩
        rw [upd_same, List.map_append]
        rfl
      · intro H6 ws s6 hD6 hlw hRw
        have hl6 := s6 _ _ hl5
        refine ⟨l, D, _, _, rfl, rfl, hl6, hD6, by rw [hlw, sizeLine_eq]; omega, fun p3 np3 => ?_⟩
        obtain ⟨H7, e7, s7, hp3⟩ := fresh (.lst (zs ++ ws)) np3
        rw [e7]
        refine ⟨p3, _, zs ++ ws, rfl, (s5.trans s6).trans s7, (s5.trans s6).free np3, hp3, ?_, ?_⟩
        · rw [List.length_append, hlw, Nat.succ_mul]
          omega
        · have s57 := s6.trans s7
          rw [etk, List.flatMap_append, List.flatMap_singleton]
          refine (hz5.mono s57).app ⟨by rw [List.length_map, List.length_range, hlw], fun j y hj => ?_⟩
          obtain ⟨c, e, _, hc⟩ := hRw j y hj
          have hj' : j < 2 ^ d := by rw [← hlw]; exact (List.getElem?_eq_some_iff.mp hj).1
          exact ⟨c, _, e, by rw [List.getElem?_map, List.getElem?_range hj']; rfl, s7 _ _ hc⟩
    · rintro σ H5 ⟨l, v5, zs, rfl, s5, nl, hl5, hzl, hz5⟩
      rw [hx.1, List.take_length] at hz5
      exact ⟨_, rfl, l, _, _, _, zs, rfl, s3.trans s5, s3.free nl, hl5, hz5⟩
  · rintro σ H3 ⟨p, v3, v4, v5, xs, rfl, s3, np, hp, hx⟩
    exact ⟨_, rfl, q H3 p xs s3 np hp hx⟩
end
end My

namespace My
/-! ### known numbers of firsts that return -/
theorem ret_list {d : Nat} (d1 : 1 ≤ d) {ws : List Int} {n : Nat} : Card (Ret d ws n) ((allS d ws.length).countP fun fs => decide (stL (2 ^ (d - 1)) ws fs n = fs)) := by
  refine ⟨(allS d ws.length).filter fun fs => decide (stL (2 ^ (d - 1)) ws fs n = fs), (allS_nodup d _).filter _, fun fs => ?_, (List.countP_eq_length_filter ..).symm⟩
  rw [List.mem_filter, allS_mem d1, decide_eq_true_eq]
  exact ⟨fun h => ⟨h.1.1, h.1.2, h.2⟩, fun h => ⟨⟨h.1, h.2.1⟩, h.2.2⟩⟩
theorem known_1 : Card (Ret 2 [3] 1) 2 := by
  have := ret_list (d := 2) (by decide) (ws := [3]) (n := 1)
  have e : ((allS 2 [(3 : Int)].length).countP fun fs => decide (stL (2 ^ (2 - 1)) [3] fs 1 = fs)) = 2 := by decide +kernel
  rwa [e] at this
theorem known_2 : Card (Ret 2 [3] 2) 4 := by
  have := ret_list (d := 2) (by decide) (ws := [3]) (n := 2)
  have e : ((allS 2 [(3 : Int)].length).countP fun fs => decide (stL (2 ^ (2 - 1)) [3] fs 2 = fs)) = 4 := by decide +kernel
  rwa [e] at this
theorem known_3 : Card (Ret 5 [] 7) 1 := by
  have := ret_list (d := 5) (by decide) (ws := []) (n := 7)
  have e : ((allS 5 ([] : List Int).length).countP fun fs => decide (stL (2 ^ (5 - 1)) [] fs 7 = fs)) = 1 := by decide +kernel
  rwa [e] at this
theorem known_4 {k : Nat} (h : Card (Ret 3 [0, 2] (10 ^ 18)) (2 ^ k)) : k = 0 := by
  have ev : ∀ b, 0 ≤ b → b < ([0, 2] : List Int).length → 2 ∣ ([0, 2] : List Int).getD b 0 := fun b _ hb => by
    match b, hb with
    | 0, _ => exact ⟨0, rfl⟩
    | 1, _ => exact ⟨1, rfl⟩
  refine (head_card (d := 3) (by decide) (n := 0) (Nat.zero_le _) ev (fun h => absurd h (by decide)) (L := 10 ^ 18) (far := 6) (by decide) (fun fs hl hs => ?_) h).trans (Nat.mul_zero 3)
  have hT : TurnN [0, 2] 1 := ⟨0, Nat.zero_le _, fun b h0 hb => by have := ev b h0 hb; omega, turn_of fun p hp => absurd hp (by simp), by decide, by decide⟩
  have a := far_back (d := 3) (by decide) hl hs hT
  have hN := st_next (half_pos 3) hl hs
  exact hN.times (a := 6) (L := 4) a 250000000000000000
theorem known_5 : Card (Ret 4 [1, 1] 24) 256 := by
  have e : stL (2 ^ (4 - 1)) [1, 1] [0, -1] (0 + 24) = stL (2 ^ (4 - 1)) [1, 1] [0, -1] 0 := by decide +kernel
  refine (card_smp (d := 4) (by decide) 2).iff fun fs => ⟨fun h => ⟨h.1, h.2, ?_⟩, fun h => ⟨h.1, h.2.1⟩⟩
  have := alone_leads (d := 4) (by decide) (ws := [1, 1]) (es := [0, -1]) h.1 h.2 rfl (by unfold Smp; decide) ⟨fun i hi => ?_, fun _ => rfl⟩ e
  · rw [Nat.zero_add, st_zero h.1] at this
    exact this
  · match i, hi with
    | 0, _ => rfl
end My

namespace My
open PySem PySem.Spec PyProof.Rows L2 Pre
/-! ### the law's count -/
theorem stL_tail {h : Int} {ws fs : List Int} {n : Nat} : (rowZ (ws.length + n) (goR h ws fs)).drop n = (stL h ws fs n).map V.int := by
  unfold stL
  rw [← rowZ_ints]
  refine rowZ_ext (by rw [List.length_drop, rowZ_len]; omega) fun i hi => ?_
  rw [List.getElem?_drop, rowZ_get _ (by omega), Nat.add_comm n i]
local macro_rules | `(tactic| walk_at "go") => `(tactic| repeat (first | (with_reducible first | refine iteT ?_ | refine iteF ?_ | refine iteNtt ?_ | refine iteNff ?_ | refine iteET (by omega) ?_ | refine iteEF (by omega) ?_ | refine iteENT (by omega) ?_ | refine iteENF (by omega) ?_ | refine iteDT (by omega) ?_ | refine iteDF (by omega) ?_ | refine iteNT (by omega) ?_ | refine iteNF (by omega) ?_) | refine ⟨_, rfl, ?_⟩ | refine ⟨_, _, rfl, rfl, ?_⟩ | refine ⟨_, _, rfl, ?_⟩ | refine ⟨rfl, ?_⟩ | refine .inl ⟨_, rfl, ?_⟩ | refine .inr ⟨_, rfl, ?_⟩))
local macro_rules | `(tactic| walk_at "b") => `(tactic| try dsimp (config := { proj := false, iota := false, eta := false, zeta := false }) only)
section
variable {P : Program} {w : World} {K : PySem.W.Frag} {mg : Str → Option Value} {base : Heap} [pf : Sup.PF P fileS]
def sp_law_count : Sp := fun vs H Q _ => ∃ (a : Addr) (d : Nat) (ws : List Int) (n : Nat), vs = [.int d, .ref a, .int n] ∧ H a = some (.lst (ws.map V.int)) ∧ GoodR ws ∧ 1 ≤ d ∧ d * ws.length < 9 ∧ d ≤ 24 ∧ n ≤ 20 ∧ ∀ H' c, Same H H' → Card (Ret d ws n) c → Q (.int (c : Nat)) H'
theorem G_law_count (T : Top K mg) : FnOk P w K mg base CX0 3 T.f_law_count T.fd_law_count ["_law_depth", "_law_weights_here", "_law_number"] sp_law_count := by
  refine T.F_law_count.ok sc_law_count (fun vs H Q E h => by obtain ⟨a, d, ws, n, rfl, _⟩ := h; rfl) (fun cdv A outer s H vs Q E hr h => ?_)
  obtain ⟨a, d, ws, n, rfl, ha, gw, d1, hdm, d2, hn, q⟩ := h
  refine ⟨_, PSs.nox (pss_cons (ps_par (by rfl) sc_law_count.nd (i := 4) (j := 5) rfl rfl (by decide) rfl rfl (pa_cons (pe_callB (k_len K rfl) (by rfl) T.n_len (by decide +kernel) (pa_cons (pv 1) pa_nil)) (pa_cons pe_int pa_nil)) (by rfl))
  (pss_cons (ps_for PassesOwn.never rfl (k_piL K rfl (pe_call (G_law_lists (P := P) T) (hr.mono (by decide)) (by rfl) T.g_law_lists T.F_law_lists.kp T.b_law_lists .nil pass0 (pa_cons (pv 0) (pa_cons (pv 4) pa_nil)))) (pg_name (i := 3) sc_law_count.nd rfl (by first | exact Or.inl rfl | exact Or.inr rfl))
    (pss_one (ps_set (i := 5) sc_law_count.nd rfl (by first | exact Or.inl rfl | exact Or.inr rfl) (pe_op op_add (pv 5) (pe_callTy call_int1 (by rfl) T.n_int (by decide +kernel) (pa_cons (pe_cmpR (k_eqD K rfl hr.units) (pe_slice (k_slL K rfl) (pe_call (G_law_gone (P := P) T) (hr.mono (by decide)) (by rfl) T.g_law_gone T.F_law_gone.kp T.b_law_gone .nil pass0 (pa_cons (pv 0) (pa_cons (pv 1) (pa_cons (pv 3) (pa_cons (pe_op op_add (pv 4) (pv 2)) pa_nil))))) (po_some (pv 2)) po_none) (pv 3) (nomark _)) pa_nil))))))
  (pss_one (ps_ret (pv 5))))), ?_⟩
  have hws := gw.1
  refine ⟨_, rfl, a, _, rfl, .inl (.inl (.inl ha)), ?_⟩
  rw [List.length_map]
  refine ⟨_, _, rfl, ?_⟩
  dsimp only
  refine ⟨_, rfl, _, rfl, d, ws.length, rfl, d1, hdm, fun H1 f xs s1 nf hf hx => ?_⟩
  refine ⟨f, rfl, ⟨_, .inl (.inl hf)⟩, for_list (K := K) (a := f) (xs := xs) (fun i σ H2 => ∃ (v3 : Option V), σ = [some (.int d), some (.ref a), some (.int n), v3, some (.int (ws.length : Nat)), some (.int (((allS d ws.length).take i).countP fun fs => decide (stL (2 ^ (d - 1)) ws fs n = fs) : Nat))] ∧ Same H1 H2) ⟨none, rfl, Same.refl _⟩ (fun i σ H2 _ ⟨_, _, s2⟩ => .inl (.inl (s2 _ _ hf))) ?_ ?_⟩
  · rintro i x σ H2 hix ⟨v3, rfl, s2⟩
    obtain ⟨b, l, rfl, hLj, hb⟩ := hx.2 i x hix
    obtain ⟨hl, hs⟩ := (allS_mem d1).mp (List.mem_of_getElem? hLj)
    have etk : (allS d ws.length).take (i + 1) = (allS d ws.length).take i ++ [l] := by rw [List.take_add_one, hLj]; rfl
    have hb2 := s2 _ _ hb
    have ha2 := s2 _ _ (s1 _ _ ha)
    refine ⟨_, rfl, _, rfl, _, rfl, _, rfl, _, rfl, _, rfl, _, _, rfl, rfl, a, b, d, ws, l, ws.length + n, rfl, ha2, hb2, gw, hl, d1, d2, by omega, by omega, fun H3 r s3 nr hr => ?_⟩
    refine ⟨_, rfl, _, rfl, r, _, rfl, .inl (.inl hr), fun c nc => ?_⟩
    dsimp only
    rw [show cutV (rowZ (ws.length + n) (goR (2 ^ (d - 1)) ws l)) (some ((n : Nat) : Int)) none = (rowZ (ws.length + n) (goR (2 ^ (d - 1)) ws l)).drop n from cut_drop _ n, stL_tail]
    obtain ⟨H4, e4, s4, hc⟩ := fresh (.lst ((stL (2 ^ (d - 1)) ws l n).map V.int)) nc
    rw [e4]
    refine ⟨_, rfl, eqD_lst (.inl (.inl hc)) (.inl (.inl (s4 _ _ (s3 _ _ hb2)))) ?_⟩
    refine .inr ⟨_, rfl, _, _, rfl, rfl, ?_⟩
    have ec : (((List.take (i + 1) (allS d ws.length)).countP fun fs => decide (stL (2 ^ (d - 1)) ws fs n = fs) : Nat) : Int) = (((List.take i (allS d ws.length)).countP fun fs => decide (stL (2 ^ (d - 1)) ws fs n = fs) : Nat) : Int) + (if decide (stL (2 ^ (d - 1)) ws l n = l) = true then 1 else 0) := by
      rw [etk, List.countP_append, List.countP_singleton, Int.natCast_add]
      by_cases cc : stL (2 ^ (d - 1)) ws l n = l
      · rw [decide_eq_true cc]; rfl
      · rw [decide_eq_false cc]; rfl
    rw [ec]
    exact ⟨some (.ref b), rfl, (s2.trans s3).trans s4⟩
  · rintro σ H2 ⟨v3, rfl, s2⟩
    refine ⟨_, rfl, ?_⟩
    rw [hx.1, List.take_length]
    exact q _ _ (s1.trans s2) (ret_list d1)
end
end My

namespace My
open PySem PySem.Spec PyProof.Rows L2 Pre
/-! ### small rules: as many as counted -/
theorem asg_join {te : TE} {tg : TG} {rest : TS} {D : L2.Ends} {σ : L2.St} {H : Hp} (Pv : V → Hp → Prop) (h : ∀ Q : VK, (∀ v H', Pv v H' → Q v H') → te σ H Q) (k : ∀ v H', Pv v H' → tg v σ H' (rest D)) :
    tSeq (tAsg te tg) rest D σ H := h _ k
theorem shw_pow {K : PySem.W.Frag} {H : Hp} {k : Nat} (hk : k ≤ 8) : ∃ t, Shw K H (.int ((2 ^ k : Nat) : Int)) t ∧ PyData.strOk t = true := by
  have : k = 0 ∨ k = 1 ∨ k = 2 ∨ k = 3 ∨ k = 4 ∨ k = 5 ∨ k = 6 ∨ k = 7 ∨ k = 8 := by omega
  rcases this with rfl | rfl | rfl | rfl | rfl | rfl | rfl | rfl | rfl <;> exact shw_ok (.int _) (by decide +kernel)
local macro_rules | `(tactic| walk_at "go") => `(tactic| repeat (first | (with_reducible first | refine iteT ?_ | refine iteF ?_ | refine iteNtt ?_ | refine iteNff ?_ | refine iteET (by omega) ?_ | refine iteEF (by omega) ?_ | refine iteENT (by omega) ?_ | refine iteENF (by omega) ?_ | refine iteDT (by omega) ?_ | refine iteDF (by omega) ?_ | refine iteNT (by omega) ?_ | refine iteNF (by omega) ?_) | refine ⟨_, rfl, ?_⟩ | refine ⟨_, _, rfl, rfl, ?_⟩ | refine ⟨_, _, rfl, ?_⟩ | refine ⟨rfl, ?_⟩ | refine .inl ⟨_, rfl, ?_⟩ | refine .inr ⟨_, rfl, ?_⟩))
local macro_rules | `(tactic| walk_at "b") => `(tactic| try dsimp (config := { proj := false, iota := false, eta := false, zeta := false }) only)
section
variable {P : Program} {w : World} {K : PySem.W.Frag} {mg : Str → Option Value} {base : Heap} [pf : Sup.PF P fileS]
def sp_law_small_good : Sp := fun vs H Q _ => ∃ (g : Addr) (n : Nat), vs = [.ref g] ∧ GenAt H g n ∧ n ≤ 10 ^ 8 ∧ ∀ H', But g H H' → GenAt H' g (n + 20000) → Q (.bl true) H'
theorem G_law_small_good (T : Top K mg) : FnG P w K mg base CX0 7 T.f_law_small_good T.fd_law_small_good ["_law_generator_here"] sp_law_small_good := by
  refine FnG.body T.F_law_small_good sc_law_small_good (fun vs H Q E h => by obtain ⟨g, n, rfl, _⟩ := h; rfl) (fun cdv A outer s H vs Q E gd hr h => ?_)
  obtain ⟨g, n, rfl, hG, hn, q⟩ := h
  refine ⟨_, PSs.nox (pss_cons (ps_set (i := 1) sc_law_small_good.nd rfl (by first | exact Or.inl rfl | exact Or.inr rfl) (pe_op op_add pe_int (pe_call (G_law_random (P := P) T) (hr.mono (by decide)) (by rfl) T.g_law_random T.F_law_random.kp T.b_law_random .nil pass0 (pa_cons (pv 0) (pa_cons pe_int pa_nil)))))
  (pss_cons (ps_set (i := 2) sc_law_small_good.nd rfl (by first | exact Or.inl rfl | exact Or.inr rfl) (pe_call (G_law_random (P := P) T) (hr.mono (by decide)) (by rfl) T.g_law_random T.F_law_random.kp T.b_law_random .nil pass0 (pa_cons (pv 0) (pa_cons (pe_op op_add pe_int (pe_op op_fdivW pe_int (pv 1))) pa_nil))))
  (pss_cons (ps_set (i := 3) sc_law_small_good.nd rfl (by first | exact Or.inl rfl | exact Or.inr rfl) (pe_ifExp (pt_cmpR op_gt (pe_call (G_law_random (P := P) T) (hr.mono (by decide)) (by rfl) T.g_law_random T.F_law_random.kp T.b_law_random .nil pass0 (pa_cons (pv 0) (pa_cons pe_int pa_nil))) pe_int (nomark _)) (pe_call (G_law_small (P := P) T) (hr.mono (by decide)) (by rfl) T.g_law_small T.F_law_small.kp T.b_law_small .nil pass0 (pa_cons (pv 0) (pa_cons (pv 2) pa_nil))) (pe_call (G_law_weights (P := P) T) (hr.mono (by decide)) (by rfl) T.g_law_weights T.F_law_weights.kp T.b_law_weights .nil pass0 (pa_cons (pv 0) (pa_cons (pv 2) pa_nil)))))
  (pss_cons (ps_for PassesOwn.never rfl (k_piL K rfl (pe_lst (pa_cons pe_int (pa_cons pe_int (pa_cons (pe_op op_add pe_int (pe_call (G_law_random (P := P) T) (hr.mono (by decide)) (by rfl) T.g_law_random T.F_law_random.kp T.b_law_random .nil pass0 (pa_cons (pv 0) (pa_cons pe_int pa_nil)))) pa_nil))))) (pg_name (i := 4) sc_law_small_good.nd rfl (by first | exact Or.inl rfl | exact Or.inr rfl))
    (pss_cons (ps_set (i := 5) sc_law_small_good.nd rfl (by first | exact Or.inl rfl | exact Or.inr rfl) (pe_callTy (k_listOf K rfl) (by rfl) T.n_list (by decide +kernel) (pa_cons (pv 3) pa_nil)))
  (pss_one (ps_if (PW.pt (pw_or (pt_cmpR op_ne (pe_callB (k_reprX K rfl gd (hu65 hr)) (by rfl) T.n_repr (by decide +kernel) (pa_cons (pe_call (G_returning (P := P) T) (hr.mono (by decide)) (by rfl) T.g_returning T.F_returning.kp T.b_returning .nil passL (pa_cons (pv 1) (pa_cons (pv 5) (pa_cons (pv 4) pa_nil)))) pa_nil)) (pe_callB (k_reprX K rfl gd (hu65 hr)) (by rfl) T.n_repr (by decide +kernel) (pa_cons (pe_call (G_law_count (P := P) T) (hr.mono (by decide)) (by rfl) T.g_law_count T.F_law_count.kp T.b_law_count .nil pass0 (pa_cons (pv 1) (pa_cons (pv 3) (pa_cons (pv 4) pa_nil)))) pa_nil)) (nomark _)) (pw_or1 (pt_cmpR (k_neD K rfl hr.units) (pv 5) (pv 3) (nomark _)))))
    (pss_one (ps_ret pe_bl))
    pss_nil))))
  (pss_one (ps_ret pe_bl)))))), ?_⟩
  refine ⟨_, rfl, g, _, _, rfl, hG, by omega, by decide, by decide +kernel, fun x1 H1 x10 x11 g1 b1 => ?_⟩
  have x11' : x1 < 4 := x11
  obtain ⟨d, ed⟩ : ∃ d : Nat, (1 : Int) + x1 = (d : Int) := ⟨(1 + x1).toNat, by omega⟩
  refine ⟨_, _, rfl, rfl, ?_⟩
  dsimp only
  rw [ed]
  have d1 : 1 ≤ d := by omega
  have d4 : d ≤ 4 := by omega
  have hq : 1 ≤ (8 : Int) / (d : Int) ∧ (8 : Int) / (d : Int) ≤ 8 ∧ ∀ m : Nat, (m : Int) ≤ (8 : Int) / (d : Int) → d * m < 9 := by
    have : d = 1 ∨ d = 2 ∨ d = 3 ∨ d = 4 := by omega
    rcases this with rfl | rfl | rfl | rfl
    · exact ⟨by decide, by decide, fun m hm => by have : (8 : Int) / ((1 : Nat) : Int) = 8 := by decide
                                                  omega⟩
    · exact ⟨by decide, by decide, fun m hm => by have : (8 : Int) / ((2 : Nat) : Int) = 4 := by decide
                                                  omega⟩
    · exact ⟨by decide, by decide, fun m hm => by have : (8 : Int) / ((3 : Nat) : Int) = 2 := by decide
                                                  omega⟩
    · exact ⟨by decide, by decide, fun m hm => by have : (8 : Int) / ((4 : Nat) : Int) = 2 := by decide
                                                  omega⟩
  refine ⟨_, rfl, _, rfl, _, _, rfl, rfl, wide_div (b := 60) (by omega) (by omega) (by decide) (by decide), _, _, rfl, rfl, g, _, _, rfl, g1, by omega, by omega, by omega, fun x2 H2 x20 x21 g2 b2 => ?_⟩
  obtain ⟨m, rfl⟩ : ∃ m : Nat, x2 = (m : Int) := ⟨x2.toNat, by omega⟩
  have hdm := hq.2.2 m (by omega)
  have m8 : m ≤ 8 := by omega
  dsimp only
  have b02 : But g H H2 := b1.trans b2
  have g2' : GenAt H2 g (n + 1000) := g2.mono (by omega)
  refine asg_join (fun v H' => ∃ (p : Addr) (ws : List Int), v = .ref p ∧ But g H H' ∧ p ≠ g ∧ GenAt H' g (n + 5000) ∧ H' p = some (.lst (ws.map V.int)) ∧ GoodR ws ∧ ws.length = m) (fun R hR => ?_) ?_
  · refine ⟨_, rfl, g, _, _, rfl, g2', by omega, by decide, by decide +kernel, fun x3 H3 x30 x31 g3 b3 => ?_⟩
    refine ⟨_, _, rfl, rfl, _, rfl, ?_⟩
    by_cases c : (0 : Int) < x3
    · refine iteDT c ?_
      refine ⟨_, rfl, _, rfl, g, _, m, rfl, g3, by omega, by omega, fun H4 p ys b4 np pg g4 hp hl hb => ?_⟩
      exact hR _ _ ⟨p, ys, rfl, (b02.trans b3).trans b4, pg, g4.mono (by omega), hp, ⟨by omega, fun w hw => Nat.le_trans (hb w hw) (by decide)⟩, hl⟩
    · refine iteDF c ?_
      refine ⟨_, rfl, _, rfl, g, _, m, rfl, g3, by omega, by omega, fun H4 p ys b4 np pg g4 hp gw hl => ?_⟩
      exact hR _ _ ⟨p, ys, rfl, (b02.trans b3).trans b4, pg, g4.mono (by omega), hp, gw, hl⟩
  rintro v H3 ⟨p, ws, rfl, b3, pg, g3, hp, gw, rfl⟩
  refine ⟨_, rfl, g, _, _, rfl, g3, by omega, by decide, by decide +kernel, fun x4 H4 x40 x41 g4 b4 => ?_⟩
  refine ⟨_, _, rfl, rfl, (by show 3 ≤ sizeLine; decide), fun L nL => ?_⟩
  obtain ⟨H5, e5, s5, hL⟩ := fresh (.lst [V.int 1, .int 2, .int (3 + x4)]) nL
  rw [e5]
  have x41' : x4 < 10 := x41
  have hp5 := s5 _ _ (b4 _ _ pg hp)
  have hin : ∀ x ∈ [V.int 1, .int 2, .int (3 + x4)], ∃ k : Nat, x = .int (k : Int) ∧ 1 ≤ k ∧ k ≤ 12 := by
    intro x hx
    simp only [List.mem_cons, List.not_mem_nil, or_false] at hx
    rcases hx with rfl | rfl | rfl
    · exact ⟨1, rfl, by decide, by decide⟩
    · exact ⟨2, rfl, by decide, by decide⟩
    · exact ⟨(3 + x4).toNat, by rw [Int.toNat_of_nonneg (by omega)], by omega, by omega⟩
  refine ⟨L, rfl, ⟨_, .inl (.inl hL)⟩, for_list (K := K) (a := L) (fun i σ HA => ∃ (v4 v5 : Option V), σ = [some (.ref g), some (.int d), some (.int (ws.length : Nat)), some (.ref p), v4, v5] ∧ Same H5 HA) ⟨none, none, rfl, Same.refl _⟩ (fun i σ HA _ ⟨_, _, _, s⟩ => .inl (.inl (s _ _ hL))) ?_ ?_⟩
  · rintro i x σ HA hx ⟨v4, v5, rfl, sA⟩
    obtain ⟨k, rfl, k1, k2⟩ := hin x (List.mem_of_getElem? hx)
    have hpA := sA _ _ hp5
    refine ⟨_, rfl, p, _, rfl, .inl (.inl (.inl hpA)), fun l1 nl1 => ?_⟩
    obtain ⟨HB, eB, sB, hl1⟩ := fresh (.lst (ws.map V.int)) nl1
    rw [eB]
    refine ⟨_, rfl, _, rfl, _, rfl, _, _, _, rfl, .inl ⟨d, rfl, d1, by omega, .inl ⟨l1, ws, rfl, hl1, gw, .inl ⟨k, rfl, k1, by omega, fun HC kk M sC hM hC hk => ?_⟩⟩⟩⟩
    have hR := ret_card d1 hM hC
    obtain ⟨t, hS, hok⟩ := shw_pow (K := K) (H := HC) (k := kk) (by omega)
    refine hS.repr ?_
    refine ⟨_, rfl, _, rfl, _, rfl, p, d, ws, k, rfl, sC _ _ (sB _ _ hpA), gw, d1, hdm, by omega, by omega, fun HD c sD hc => ?_⟩
    obtain rfl : 2 ^ kk = c := hR.uniq hc
    refine (hS.same sD).repr ?_
    refine ⟨rfl, _, rfl, iteNF rfl ?_⟩
    have hl1D := sD _ _ (sC _ _ hl1)
    have hpD := sD _ _ (sC _ _ (sB _ _ hpA))
    refine ⟨_, rfl, _, rfl, neD_lst (.inl (.inl hl1D)) (.inl (.inl hpD)) ⟨_, rfl, iteNF rfl ?_⟩⟩
    exact ⟨_, _, rfl, ((sA.trans sB).trans sC).trans sD⟩
  · rintro σ HA ⟨v4, v5, rfl, sA⟩
    exact q _ ((b3.trans b4).same (s5.trans sA)) (((g4.same s5).same sA).mono (by omega))
end
end My

namespace My
open PySem PySem.Spec PyProof.Rows L2 Pre
/-! ### great rules -/
/-- the place behind the last odd weight -/
def whlS (ws : List Int) : List Int := (List.range ws.length).filterMap fun i => if ws.getD i 0 % 2 = 1 then some (((i : Nat) : Int) + 1) else none
theorem whlS_sel (ws : List Int) : ((List.range ws.length).map fun i => if ws.getD i 0 % 2 = 1 then some (V.int (((i : Nat) : Int) + 1)) else none).filterMap id = (whlS ws).map V.int := by
  unfold whlS
  rw [List.filterMap_map, List.map_filterMap]
  congr 1
  funext i
  show (if ws.getD i 0 % 2 = 1 then some (V.int (((i : Nat) : Int) + 1)) else none) = _
  by_cases c : ws.getD i 0 % 2 = 1
  · rw [if_pos c, if_pos c]; rfl
  · rw [if_neg c, if_neg c]; rfl
theorem whlS_mem {ws : List Int} {x : Int} : x ∈ whlS ws ↔ ∃ i : Nat, i < ws.length ∧ ws.getD i 0 % 2 = 1 ∧ x = (i : Int) + 1 := by
  unfold whlS
  rw [List.mem_filterMap]
  constructor
  · rintro ⟨i, hi, e⟩
    by_cases c : ws.getD i 0 % 2 = 1
    · rw [if_pos c] at e
      exact ⟨i, List.mem_range.mp hi, c, (Option.some.inj e).symm⟩
    · rw [if_neg c] at e
      cases e
  · rintro ⟨i, hi, c, rfl⟩
    exact ⟨i, List.mem_range.mpr hi, if_pos c⟩
theorem odd_whole {ws : List Int} {n : Nat} (hn : n ≤ ws.length) (he : ∀ b, n ≤ b → b < ws.length → 2 ∣ ws.getD b 0) (ho : 0 < n → ¬ 2 ∣ ws.getD (n - 1) 0) {m : Int} (hm : m ∈ [0] ++ whlS ws) (hx : ∀ y ∈ [0] ++ whlS ws, y ≤ m) : m = n := by
  have h1 : m ≤ n := by
    rcases List.mem_append.mp hm with h | h
    · rw [List.mem_singleton.mp h]; omega
    · obtain ⟨i, hi, c, rfl⟩ := whlS_mem.mp h
      by_cases q : n ≤ i
      · have := he i q hi
        omega
      · omega
  by_cases z : n = 0
  · have := hx 0 (by simp)
    omega
  · have := hx n (List.mem_append_right _ (whlS_mem.mpr ⟨n - 1, by omega, by have := ho (by omega); omega, by omega⟩))
    omega
local macro_rules | `(tactic| walk_at "go") => `(tactic| repeat (first | (with_reducible first | refine iteT ?_ | refine iteF ?_ | refine iteNtt ?_ | refine iteNff ?_ | refine iteET (by omega) ?_ | refine iteEF (by omega) ?_ | refine iteENT (by omega) ?_ | refine iteENF (by omega) ?_ | refine iteDT (by omega) ?_ | refine iteDF (by omega) ?_ | refine iteNT (by omega) ?_ | refine iteNF (by omega) ?_) | refine ⟨_, rfl, ?_⟩ | refine ⟨_, _, rfl, rfl, ?_⟩ | refine ⟨_, _, rfl, ?_⟩ | refine ⟨rfl, ?_⟩ | refine .inl ⟨_, rfl, ?_⟩ | refine .inr ⟨_, rfl, ?_⟩))
local macro_rules | `(tactic| walk_at "b") => `(tactic| try dsimp (config := { proj := false, iota := false, eta := false, zeta := false }) only)
section
variable {P : Program} {w : World} {K : PySem.W.Frag} {mg : Str → Option Value} {base : Heap} [pf : Sup.PF P fileS]
def sp_law_great_good : Sp := fun vs H Q _ => ∃ (g : Addr) (n : Nat), vs = [.ref g] ∧ GenAt H g n ∧ n ≤ 10 ^ 8 ∧ ∀ H', But g H H' → GenAt H' g (n + 20000) → Q (.bl true) H'
theorem G_law_great_good (T : Top K mg) : FnOk P w K mg base CX0 7 T.f_law_great_good T.fd_law_great_good ["_law_generator_here"] sp_law_great_good := by
  refine T.F_law_great_good.ok sc_law_great_good (fun vs H Q E h => by obtain ⟨g, n, rfl, _⟩ := h; rfl) (fun cdv A outer s H vs Q E hr h => ?_)
  obtain ⟨g, n, rfl, hG, hn, q⟩ := h
  refine ⟨_, PSs.nox (pss_cons (ps_asg (pe_tup (pa_cons (pe_op op_add pe_int (pe_call (G_law_random (P := P) T) (hr.mono (by decide)) (by rfl) T.g_law_random T.F_law_random.kp T.b_law_random .nil pass0 (pa_cons (pv 0) (pa_cons pe_int pa_nil)))) (pa_cons (pe_call (G_law_weights (P := P) T) (hr.mono (by decide)) (by rfl) T.g_law_weights T.F_law_weights.kp T.b_law_weights .nil pass0 (pa_cons (pv 0) (pa_cons (pe_op op_add pe_int (pe_call (G_law_random (P := P) T) (hr.mono (by decide)) (by rfl) T.g_law_random T.F_law_random.kp T.b_law_random .nil pass0 (pa_cons (pv 0) (pa_cons pe_int pa_nil)))) pa_nil))) pa_nil))) (k_pgT K rfl (by rfl) (pgs_cons (pg_name (i := 2) sc_law_great_good.nd rfl (by first | exact Or.inl rfl | exact Or.inr rfl)) (pgs_cons (pg_name (i := 3) sc_law_great_good.nd rfl (by first | exact Or.inl rfl | exact Or.inr rfl)) pgs_nil))))
  (pss_cons (ps_par (by rfl) sc_law_great_good.nd (i := 4) (j := 5) rfl rfl (by decide) rfl rfl (pa_cons (pe_op op_add pe_int (pe_call (G_law_random (P := P) T) (hr.mono (by decide)) (by rfl) T.g_law_random T.F_law_random.kp T.b_law_random .nil pass0 (pa_cons (pv 0) (pa_cons (pe_op op_powW pe_int pe_int) pa_nil)))) (pa_cons (pe_op op_add pe_int (pe_call (G_law_random (P := P) T) (hr.mono (by decide)) (by rfl) T.g_law_random T.F_law_random.kp T.b_law_random .nil pass0 (pa_cons (pv 0) (pa_cons (pe_op op_powW pe_int pe_int) pa_nil)))) pa_nil)) (by rfl))
  (pss_cons (ps_par (by rfl) sc_law_great_good.nd (i := 6) (j := 7) rfl rfl (by decide) rfl rfl (pa_cons (pe_call (G_returning (P := P) T) (hr.mono (by decide)) (by rfl) T.g_returning T.F_returning.kp T.b_returning .nil passL (pa_cons (pv 2) (pa_cons (pv 3) (pa_cons (pv 4) pa_nil)))) (pa_cons (pe_call (G_returning (P := P) T) (hr.mono (by decide)) (by rfl) T.g_returning T.F_returning.kp T.b_returning .nil passL (pa_cons (pv 2) (pa_cons (pv 3) (pa_cons (pe_op op_mul (pv 4) (pv 5)) pa_nil)))) pa_nil)) (by rfl))
  (pss_cons (ps_if (PW.pt (pw_or (pt_cmpR op_lt (pv 6) pe_int (nomark _)) (pw_or (pt_cmpR op_ne (pe_callTy call_int1 (by rfl) T.n_int (by decide +kernel) (pa_cons (pe_op op_mod (pv 7) (pv 6)) pa_nil)) pe_int (nomark _)) (pw_or1 (pt_cmpR op_ne (pe_callTy call_int1 (by rfl) T.n_int (by decide +kernel) (pa_cons (pe_op op_mod (pe_op op_shl pe_int (pe_op op_mul (pv 2) (pe_callB (k_len K rfl) (by rfl) T.n_len (by decide +kernel) (pa_cons (pv 3) pa_nil)))) (pv 7)) pa_nil)) pe_int (nomark _))))))
    (pss_one (ps_ret pe_bl))
    pss_nil)
  (pss_cons (ps_set (i := 1) sc_law_great_good.nd rfl (by first | exact Or.inl rfl | exact Or.inr rfl) (pe_callB (k_max K rfl rfl) (by rfl) T.n_max (by decide +kernel) (pa_cons (pe_op op_cat (pe_lst (pa_cons pe_int pa_nil)) (pe_lc (own := [("_law_spot", 8)]) (g := gName 8) (by rfl) sc_law_great_good.nd (pi_range1 (by rfl) T.n_range (pa_cons (pe_callB (k_len K rfl) (by rfl) T.n_len (by decide +kernel) (pa_cons (pv 3) pa_nil)) pa_nil)) (blkOk_by (own := [("_law_spot", 8)]) (N := N_law_great_good) (sc := defScope s_law_great_good) (by decide +kernel)) (fun _ _ _ _ _ => (pg_name (i := 8) sc_law_great_good.nd rfl (by first | exact Or.inl rfl | exact Or.inr rfl))) (fun _ _ _ _ _ => (pts_one (pt_cmpR op_eq (pe_callTy call_int1 (by rfl) T.n_int (by decide +kernel) (pa_cons (pe_op op_mod (pe_ix (k_ixL K rfl) (pv 3) (pv 8) (fun _ _ => rfl)) pe_int) pa_nil)) pe_int (nomark _)))) (fun _ _ _ _ _ => (pe_op op_add (pv 8) pe_int)))) pa_nil)))
  (pss_one (ps_ret (pe_cmpR op_eq (pe_call (G_returning (P := P) T) (hr.mono (by decide)) (by rfl) T.g_returning T.F_returning.kp T.b_returning .nil passL (pa_cons (pv 2) (pa_cons (pv 3) (pa_cons (pe_ix (k_ixT K rfl) (pe_call (G_longest_period (P := P) T) (hr.mono (by decide)) (by rfl) T.g_longest_period T.F_longest_period.kp T.b_longest_period .nil passL (pa_cons (pv 2) (pa_cons (pv 3) pa_nil))) pe_int (fun _ _ => rfl)) pa_nil)))) (pe_op op_shl pe_int (pe_op op_mul (pv 2) (pv 1))) (nomark _))))))))), ?_⟩
  refine ⟨_, rfl, g, _, _, rfl, hG, by omega, by decide, by decide +kernel, fun x1 H1 x10 x11 g1 b1 => ?_⟩
  have x11' : x1 < 24 := x11
  obtain ⟨d, ed⟩ : ∃ d : Nat, (1 : Int) + x1 = (d : Int) := ⟨(1 + x1).toNat, by omega⟩
  refine ⟨_, _, rfl, rfl, ?_⟩
  dsimp only
  rw [ed]
  have d1 : 1 ≤ d := by omega
  have d2 : d ≤ 24 := by omega
  refine ⟨_, rfl, _, rfl, g, _, _, rfl, g1, by omega, by decide, by decide +kernel, fun x2 H2 x20 x21 g2 b2 => ?_⟩
  have x21' : x2 < 8 := x21
  obtain ⟨m, em⟩ : ∃ m : Nat, (1 : Int) + x2 = (m : Int) := ⟨(1 + x2).toNat, by omega⟩
  refine ⟨_, _, rfl, rfl, ?_⟩
  dsimp only
  rw [em]
  refine ⟨g, _, m, rfl, g2, by omega, by omega, fun H3 a ws b3 na ag g3 ha gw hwl => ?_⟩
  have hws := gw.1
  refine ⟨(by show 2 ≤ sizeLine; decide), fun z nz => ?_⟩
  obtain ⟨H4, e4, s4, hz⟩ := fresh (.tup [V.int d, .ref a]) nz
  rw [e4]
  have hw1 : 1 ≤ ws.length := by omega
  refine ⟨z, _, rfl, .inl (.inl hz), rfl, _, _, rfl, _, _, rfl, rfl, ?_⟩
  have b04 : But g H H4 := ((b1.trans b2).trans b3).same s4
  have g4 : GenAt H4 g (n + 5000) := (g3.same s4).mono (by omega)
  have ha4 := s4 _ _ ha
  refine ⟨_, rfl, _, _, rfl, rfl, ?_, g, _, _, rfl, g4, by omega, by decide, by decide +kernel, fun x3 H5 x30 x31 g5 b5 => ?_⟩
  · exact ⟨by decide, by decide +kernel⟩
  refine ⟨_, _, rfl, rfl, ?_⟩
  refine ⟨_, rfl, _, _, rfl, rfl, ?_, g, _, _, rfl, g5, by omega, by decide, by decide +kernel, fun x4 H6 x40 x41 g6 b6 => ?_⟩
  · exact ⟨by decide, by decide +kernel⟩
  refine ⟨_, _, rfl, rfl, ?_⟩
  have x31' : x3 < 10 ^ 9 := x31
  have x41' : x4 < 10 ^ 9 := x41
  obtain ⟨a1, ea1⟩ : ∃ k : Nat, (1 : Int) + x3 = (k : Int) := ⟨(1 + x3).toNat, by omega⟩
  obtain ⟨t1, et1⟩ : ∃ k : Nat, (1 : Int) + x4 = (k : Int) := ⟨(1 + x4).toNat, by omega⟩
  refine ⟨_, _, rfl, ?_⟩
  dsimp only
  rw [ea1, et1]
  have ha6 := b6 _ _ ag (b5 _ _ ag ha4)
  refine ⟨_, rfl, _, rfl, _, rfl, _, _, _, rfl, .inl ⟨d, rfl, d1, d2, .inl ⟨a, ws, rfl, ha6, gw, .inl ⟨a1, rfl, by omega, by omega, fun H7 k1 M1 s7 hM1 hC1 hk1 => ?_⟩⟩⟩⟩
  have hR1 := ret_card d1 hM1 hC1
  have hmul : ((a1 : Nat) : Int) * (t1 : Int) = ((a1 * t1 : Nat) : Int) := (Int.natCast_mul _ _).symm
  have hmb : a1 * t1 ≤ 10 ^ 9 * 10 ^ 9 := Nat.mul_le_mul (by omega) (by omega)
  refine ⟨_, rfl, _, rfl, _, rfl, _, rfl, _, _, rfl, rfl, ?_, ?_⟩
  · exact .inr ⟨by omega, by omega⟩
  dsimp only
  rw [hmul]
  refine ⟨_, _, _, rfl, .inl ⟨d, rfl, d1, d2, .inl ⟨a, ws, rfl, s7 _ _ ha6, gw, .inl ⟨a1 * t1, rfl, Nat.mul_pos (by omega) (by omega), hmb, fun H8 k2 M2 s8 hM2 hC2 hk2 => ?_⟩⟩⟩⟩
  have hR2 := ret_card d1 hM2 hC2
  have hdv := ret_dvd hR1 hR2
  refine ⟨_, _, rfl, ?_⟩
  have p1 : 0 < 2 ^ k1 := Nat.pow_pos (by decide)
  have p2 : 0 < 2 ^ k2 := Nat.pow_pos (by decide)
  have s48 := s7.trans s8
  have ha8 := s48 _ _ ha6
  refine ⟨_, rfl, _, _, rfl, rfl, _, rfl, iteDF (by omega) ?_⟩
  refine ⟨_, rfl, _, rfl, _, _, rfl, rfl, by omega, .inl ⟨_, rfl, rfl, _, rfl, iteENF (Int.emod_eq_zero_of_dvd (Int.natCast_dvd_natCast.mpr hdv)) ?_⟩⟩
  have hml : ((d : Nat) : Int) * (ws.length : Int) = ((d * ws.length : Nat) : Int) := (Int.natCast_mul _ _).symm
  have hmlb : d * ws.length ≤ 24 * 8 := Nat.mul_le_mul d2 hws
  refine ⟨_, rfl, _, rfl, a, _, rfl, .inl (.inl (.inl ha8)), ?_⟩
  rw [List.length_map]
  refine ⟨_, _, rfl, rfl, .inl ⟨by omega, by omega⟩, ?_⟩
  dsimp only
  rw [hml]
  refine ⟨_, _, rfl, rfl, ⟨by omega, by omega, by decide⟩, ?_⟩
  dsimp only
  rw [show (1 : Int) * 2 ^ ((d * ws.length : Nat) : Int).toNat = ((2 ^ (d * ws.length) : Nat) : Int) by rw [Int.one_mul, Int.toNat_natCast, Int.natCast_pow]; rfl]
  refine ⟨_, rfl, _, _, rfl, rfl, by omega, .inl ⟨_, rfl, rfl, _, rfl, iteENF (Int.emod_eq_zero_of_dvd (Int.natCast_dvd_natCast.mpr (Nat.pow_dvd_pow 2 hk2))) ?_⟩⟩
  refine ⟨(by show 1 ≤ sizeLine; decide), fun l0 nl0 => ?_⟩
  obtain ⟨H9, e9, s9, hl0⟩ := fresh (.lst [V.int 0]) nl0
  rw [e9]
  have ha9 := s9 _ _ ha8
  refine ⟨_, rfl, a, _, rfl, .inl (.inl (.inl ha9)), ?_⟩
  rw [List.length_map]
  refine ⟨_, rfl, by omega, by omega, fun D nD => ?_⟩
  rw [Int.toNat_natCast]
  refine lc_selR (lo := 0) (n := ws.length) ((List.range ws.length).map fun i => if ws.getD i 0 % 2 = 1 then some (V.int ((i : Nat) + 1)) else none) nD (by rw [List.length_map, List.length_range]) (small4 (by omega)) (fun x => rfl) ?_ ?_
  · intro i o HA hi ho sA Qt qt
    rw [List.getElem?_map, List.getElem?_range hi] at ho
    have eo := Option.some.inj ho
    have hg := List.getElem?_eq_getElem hi
    have hgd : ws.getD i 0 = ws[i] := by rw [List.getD_eq_getElem?_getD, hg]; rfl
    rw [Int.zero_add]
    refine ⟨_, rfl, _, rfl, a, ws.map V.int, _, .int (ws.getD i 0), rfl, rfl, .inl (.inl (sA _ _ ha9)), atI_nat (j := i) (by rw [List.getElem?_map, hg, hgd]; rfl), _, _, rfl, rfl, (by show (0 : Int) < 2; decide), .inl ⟨_, rfl, rfl, _, rfl, ?_⟩⟩
    dsimp only at eo
    by_cases c : ws.getD i 0 % 2 = 1
    · rw [if_pos c] at eo
      refine iteET c ⟨_, rfl, _, _, rfl, rfl, ?_⟩
      subst eo
      exact qt _ (Same.refl _)
    · rw [if_neg c] at eo
      refine iteEF c ?_
      subst eo
      exact qt _ (Same.refl _)
  · intro HA sA hD
    rw [whlS_sel] at hD
    refine ⟨l0, D, _, _, rfl, rfl, sA _ _ hl0, hD, by rw [List.length_map, sizeLine_eq]; have : (whlS ws).length ≤ ws.length := by { unfold whlS; exact Nat.le_trans (List.length_filterMap_le _ _) (by rw [List.length_range]; exact Nat.le_refl _) }; show 1 + _ ≤ _; omega, fun l1 nl1 => ?_⟩
    obtain ⟨HB, eB, sB, hl1⟩ := fresh (.lst ([V.int 0] ++ (whlS ws).map V.int)) nl1
    rw [show upd HA l1 (.lst ([V.int 0] ++ (whlS ws).map V.int)) = HB from eB]
    refine ⟨l1, [0] ++ whlS ws, rfl, .inl (.inl (by rw [hl1, List.map_append]; rfl)), by rw [List.length_append]; show 0 < 1 + _; omega, fun mx hmx hgx => ?_⟩
    obtain ⟨no, hn1, hn2, hn3⟩ := odd_top ws
    obtain rfl : mx = (no : Int) := odd_whole hn1 hn2 hn3 hmx hgx
    have haB := sB _ _ (sA _ _ ha9)
    refine ⟨_, rfl, _, rfl, _, rfl, _, rfl, _, _, rfl, .inl ⟨d, rfl, d1, d2, .inl ⟨a, ws, rfl, haB, gw, fun HC u hd pp es sC hu e1 e2 e3 hP b1 b2 => ?_⟩⟩⟩
    have hno : d * no ≤ 24 * 8 := Nat.mul_le_mul d2 (by omega)
    refine ⟨u, _, _, _, rfl, rfl, .inl (.inl hu), atI_nat (j := 1) rfl, ?_⟩
    refine ⟨_, _, _, rfl, .inl ⟨d, rfl, d1, d2, .inl ⟨a, ws, rfl, sC _ _ haB, gw, .inl ⟨pp, rfl, hP.1, Nat.le_trans b2 (by decide), fun HD k3 M3 sD hM3 hC3 hk3 => ?_⟩⟩⟩⟩
    have hk : k3 = d * no := head_card d1 hn1 hn2 hn3 hP.1 (fun fs hl hs => alone_leads d1 hl hs e1 e3 e2 hP.2.1) (ret_card d1 hM3 hC3)
    have hml2 : ((d : Nat) : Int) * (no : Int) = ((d * no : Nat) : Int) := (Int.natCast_mul _ _).symm
    refine ⟨_, rfl, _, rfl, _, _, rfl, rfl, .inl ⟨by omega, by omega⟩, ?_⟩
    dsimp only
    rw [hml2]
    refine ⟨_, _, rfl, rfl, ⟨by omega, by omega, by decide⟩, ?_⟩
    dsimp only
    rw [show (1 : Int) * 2 ^ ((d * no : Nat) : Int).toNat = ((2 ^ (d * no) : Nat) : Int) by rw [Int.one_mul, Int.toNat_natCast, Int.natCast_pow]; rfl, ← hk]
    refine ⟨rfl, ?_⟩
    rw [decide_eq_true rfl]
    exact q _ (((((b04.trans b5).trans b6).same s48).same s9).same (((sA.trans sB).trans sC).trans sD)) ((((((((g6.same s48).same s9).same sA).same sB).same sC).same sD)).mono (by omega))
end
end My

namespace My
open PySem PySem.Spec PyProof.Rows L2 Pre
/-! ### the law -/
local macro_rules | `(tactic| walk_at "go") => `(tactic| repeat (first | (with_reducible first | refine iteT ?_ | refine iteF ?_ | refine iteNtt ?_ | refine iteNff ?_ | refine iteET (by omega) ?_ | refine iteEF (by omega) ?_ | refine iteENT (by omega) ?_ | refine iteENF (by omega) ?_ | refine iteDT (by omega) ?_ | refine iteDF (by omega) ?_ | refine iteNT (by omega) ?_ | refine iteNF (by omega) ?_) | refine ⟨_, rfl, ?_⟩ | refine ⟨_, _, rfl, rfl, ?_⟩ | refine ⟨_, _, rfl, ?_⟩ | refine ⟨rfl, ?_⟩ | refine .inl ⟨_, rfl, ?_⟩ | refine .inr ⟨_, rfl, ?_⟩))
local macro_rules | `(tactic| walk_at "b") => `(tactic| try dsimp (config := { proj := false, iota := false, eta := false, zeta := false }) only)
section
variable {P : Program} {w : World} {K : PySem.W.Frag} {mg : Str → Option Value} {base : Heap} [pf : Sup.PF P fileS]
def sp_law (K : PySem.W.Frag) : Sp := fun vs H Q _ => ∃ (a : Addr) (ns : List Int), vs = [.ref a] ∧ SqL K H a (ns.map V.int) ∧ ns.length ≤ 63 ∧ ∀ H', Q (.bl true) H'
theorem G_law (T : Top K mg) : FnG P w K mg base CX0 9 T.f_law T.fd_law ["_law_script"] (sp_law K) := by
  refine FnG.body T.F_law sc_law (fun vs H Q E h => by obtain ⟨p, ns, rfl, _⟩ := h; rfl) (fun cdv A outer s H vs Q E gd hr h => ?_)
  obtain ⟨p, ns, rfl, hp, hl, q⟩ := h
  refine ⟨_, PSs.nox (pss_cons (ps_set (i := 1) sc_law.nd rfl (by first | exact Or.inl rfl | exact Or.inr rfl) (pe_call (G_law_generator (P := P) T) (hr.mono (by decide)) (by rfl) T.g_law_generator T.F_law_generator.kp T.b_law_generator .nil pass0 (pa_cons (pv 0) (pa_cons pe_int pa_nil))))
  (pss_cons (ps_for PassesOwn.never rfl (pi_range1 (by rfl) T.n_range (pa_cons pe_int pa_nil)) (pg_name (i := 2) sc_law.nd rfl (by first | exact Or.inl rfl | exact Or.inr rfl))
    (pss_one (ps_if (pt_not (pt_val (pe_callG (G_law_small_good (P := P) T) gd (hr.mono (by decide)) (by rfl) T.g_law_small_good T.F_law_small_good.kp T.b_law_small_good .nil pass0 (pa_cons (pv 1) pa_nil))))
    (pss_one (ps_ret pe_bl))
    pss_nil)))
  (pss_cons (ps_for PassesOwn.never rfl (pi_range1 (by rfl) T.n_range (pa_cons pe_int pa_nil)) (pg_name (i := 2) sc_law.nd rfl (by first | exact Or.inl rfl | exact Or.inr rfl))
    (pss_one (ps_if (pt_not (pt_val (pe_call (G_law_great_good (P := P) T) (hr.mono (by decide)) (by rfl) T.g_law_great_good T.F_law_great_good.kp T.b_law_great_good .nil pass0 (pa_cons (pv 1) pa_nil))))
    (pss_one (ps_ret pe_bl))
    pss_nil)))
  (pss_cons (ps_set (i := 3) sc_law.nd rfl (by first | exact Or.inl rfl | exact Or.inr rfl) (pe_lst (pa_cons (pe_call (G_returning (P := P) T) (hr.mono (by decide)) (by rfl) T.g_returning T.F_returning.kp T.b_returning .nil passL (pa_cons pe_int (pa_cons (pe_lst (pa_cons pe_int pa_nil)) (pa_cons pe_int pa_nil)))) (pa_cons (pe_call (G_returning (P := P) T) (hr.mono (by decide)) (by rfl) T.g_returning T.F_returning.kp T.b_returning .nil passL (pa_cons pe_int (pa_cons (pe_lst (pa_cons pe_int pa_nil)) (pa_cons pe_int pa_nil)))) (pa_cons (pe_call (G_returning (P := P) T) (hr.mono (by decide)) (by rfl) T.g_returning T.F_returning.kp T.b_returning .nil passL (pa_cons pe_int (pa_cons (pe_lst pa_nil) (pa_cons pe_int pa_nil)))) (pa_cons (pe_call (G_returning (P := P) T) (hr.mono (by decide)) (by rfl) T.g_returning T.F_returning.kp T.b_returning .nil passL (pa_cons pe_int (pa_cons (pe_lst (pa_cons pe_int (pa_cons pe_int pa_nil))) (pa_cons (pe_op op_powW pe_int pe_int) pa_nil)))) pa_nil))))))
  (pss_cons (ps_expr (pe_bm PySem.F.plainAttrs_list PySem.F.slot_list_append PySem.F.type_list_append mt_append (pv 3) (pa_cons (pe_callKO (G_returning (P := P) T) (hr.mono (by decide)) (by rfl) T.g_returning T.F_returning.kp (FunD.kbindsN T.F_returning ["number", "weights", "depth"] List.reverse Vals_rev (fun _ _ _ _ _ _ ws hl => match ws, hl with | [_, _, _], _ => rfl)) passL (pk_cons pe_int (pk_cons (pe_lst (pa_cons pe_int (pa_cons pe_int pa_nil))) (pk_cons pe_int pk_nil)))) pa_nil)))
  (pss_one (ps_ret (pe_and (pe_cmpR (k_eqD K rfl hr.units) (pv 3) (pe_lst (pa_cons pe_int (pa_cons pe_int (pa_cons pe_int (pa_cons pe_int (pa_cons pe_int pa_nil)))))) (nomark _)) (pe_one (pe_callG0 (G_law_refused (P := P) T) gd (hr.mono (by decide)) (by rfl) T.g_law_refused T.F_law_refused.kp T.b_law_refused .nil pass0)))))))))), ?_⟩
  refine ⟨_, rfl, p, ns, 0, rfl, hp, fun H1 g s1 ng gG => ?_⟩
  have g1 : GenAt H1 g 1000 := gG.mono (by omega)
  refine ⟨_, rfl, by decide, by decide, ?_⟩
  refine for_range (lo := 0) (n := Int.toNat 3) (fun t σ HA => ∃ v2 : Option V, σ = [some (.ref p), some (.ref g), v2, none] ∧ GenAt HA g (1000 + 20000 * t)) ⟨none, rfl, g1⟩ ?_ ?_
  · rintro t σ HA ht ⟨v2, rfl, gA⟩
    have ht3 : t < 3 := ht
    refine ⟨_, rfl, g, _, rfl, gA, by omega, fun HB bB gB => ⟨_, rfl, iteF ?_⟩⟩
    exact ⟨_, rfl, gB.mono (by omega)⟩
  rintro σ HA ⟨v2, rfl, gA⟩
  have gA' : GenAt HA g 61000 := gA
  refine ⟨_, rfl, by decide, by decide, ?_⟩
  refine for_range (lo := 0) (n := Int.toNat 2) (fun t σ HA => ∃ v2 : Option V, σ = [some (.ref p), some (.ref g), v2, none] ∧ GenAt HA g (61000 + 20000 * t)) ⟨v2, rfl, gA'⟩ ?_ ?_
  · rintro t σ HA ht ⟨v2, rfl, gA⟩
    have ht3 : t < 2 := ht
    refine ⟨_, rfl, g, _, rfl, gA, by omega, fun HB bB gB => ⟨_, rfl, iteF ?_⟩⟩
    exact ⟨_, rfl, gB.mono (by omega)⟩
  rintro σ HA ⟨v2, rfl, gA⟩
  refine ⟨(by show 1 ≤ sizeLine; decide), fun z1 nz1 => ?_⟩
  obtain ⟨Hz1, ez1, sz1, hz1⟩ := fresh (.lst [V.int 3]) nz1
  rw [ez1]
  refine ⟨_, _, _, rfl, .inl ⟨2, rfl, by decide, by decide, .inl ⟨z1, ([3] : List Int), rfl, hz1, ⟨by decide, by decide⟩, .inl ⟨1, rfl, by decide, by decide, fun HR1 k1 M1 sR1 hM1 hC1 _ => ?_⟩⟩⟩⟩
  have e1 : 2 ^ k1 = 2 := (ret_card (d := 2) (by decide) hM1 hC1).uniq known_1
  rw [e1]
  refine ⟨(by show 1 ≤ sizeLine; decide), fun z2 nz2 => ?_⟩
  obtain ⟨Hz2, ez2, sz2, hz2⟩ := fresh (.lst [V.int 3]) nz2
  rw [ez2]
  refine ⟨_, _, _, rfl, .inl ⟨2, rfl, by decide, by decide, .inl ⟨z2, ([3] : List Int), rfl, hz2, ⟨by decide, by decide⟩, .inl ⟨2, rfl, by decide, by decide, fun HR2 k2 M2 sR2 hM2 hC2 _ => ?_⟩⟩⟩⟩
  have e2 : 2 ^ k2 = 4 := (ret_card (d := 2) (by decide) hM2 hC2).uniq known_2
  rw [e2]
  refine ⟨(by show 0 ≤ sizeLine; decide), fun z3 nz3 => ?_⟩
  obtain ⟨Hz3, ez3, sz3, hz3⟩ := fresh (.lst ([] : List V)) nz3
  rw [ez3]
  refine ⟨_, _, _, rfl, .inl ⟨5, rfl, by decide, by decide, .inl ⟨z3, ([] : List Int), rfl, hz3, ⟨by decide, by decide⟩, .inl ⟨7, rfl, by decide, by decide, fun HR3 k3 M3 sR3 hM3 hC3 _ => ?_⟩⟩⟩⟩
  have e3 : 2 ^ k3 = 1 := (ret_card (d := 5) (by decide) hM3 hC3).uniq known_3
  rw [e3]
  refine ⟨(by show 2 ≤ sizeLine; decide), fun z4 nz4 => ?_⟩
  obtain ⟨Hz4, ez4, sz4, hz4⟩ := fresh (.lst [V.int 0, .int 2]) nz4
  rw [ez4]
  refine ⟨_, _, rfl, rfl, ⟨by decide, by decide +kernel⟩, ?_⟩
  refine ⟨_, _, _, rfl, .inl ⟨3, rfl, by decide, by decide, .inl ⟨z4, ([0, 2] : List Int), rfl, hz4, ⟨by decide, by decide⟩, .inl ⟨10 ^ 18, congrArg V.int (by decide +kernel), by decide, by decide, fun HR4 k4 M4 sR4 hM4 hC4 _ => ?_⟩⟩⟩⟩
  obtain rfl : k4 = 0 := known_4 (ret_card (d := 3) (by decide) hM4 hC4)
  refine ⟨(by show 4 ≤ sizeLine; decide), fun L nL => ?_⟩
  obtain ⟨HL, eL, sL, hL⟩ := fresh (.lst [V.int 2, .int 4, .int 1, .int 1]) nL
  rw [show upd HR4 L (.lst [V.int ((2 : Nat) : Int), .int ((4 : Nat) : Int), .int ((1 : Nat) : Int), .int ((2 ^ 0 : Nat) : Int)]) = HL from eL]
  refine ⟨_, rfl, .inl ⟨rfl, _, .inl (.inl hL)⟩, (by show 2 ≤ sizeLine; decide), fun z5 nz5 => ?_⟩
  obtain ⟨Hz5, ez5, sz5, hz5⟩ := fresh (.lst [V.int 1, .int 1]) nz5
  rw [ez5]
  refine ⟨rfl, _, _, _, rfl, .inl ⟨4, rfl, by decide, by decide, .inl ⟨z5, ([1, 1] : List Int), rfl, hz5, ⟨by decide, by decide⟩, .inl ⟨24, rfl, by decide, by decide, fun HR5 k5 M5 sR5 hM5 hC5 _ => ?_⟩⟩⟩⟩
  have e5 : 2 ^ k5 = 256 := (ret_card (d := 4) (by decide) hM5 hC5).uniq known_5
  rw [e5]
  refine ⟨L, _, _, rfl, rfl, (sR5 _ _ (sz5 _ _ hL)), (by show 4 < sizeLine; decide), ?_⟩
  obtain ⟨HY, eY⟩ : ∃ HY, upd HR5 L (.lst ([V.int 2, .int 4, .int 1, .int 1] ++ [V.int ((256 : Nat) : Int)])) = HY := ⟨_, rfl⟩
  rw [eY]
  have kL : HY L = some (.lst (([2, 4, 1, 1, 256] : List Int).map V.int)) := by rw [← eY]; exact upd_same
  refine ⟨_, rfl, (by show 5 ≤ sizeLine; decide), fun y1 ny1 => ?_⟩
  obtain ⟨Hy1, ey1, sy1, hy1⟩ := fresh (.lst (([2, 4, 1, 1, 256] : List Int).map V.int)) ny1
  rw [show upd HY y1 (.lst [V.int 2, .int 4, .int 1, .int 1, .int 256]) = Hy1 from ey1]
  refine eq_lst (.inl (.inl (sy1 _ _ kL))) (.inl (.inl hy1)) ?_
  refine ⟨_, rfl, iteT ?_⟩
  exact ⟨rfl, fun H2 _ => q H2⟩
end
end My

open PySem PySem.W PySem.Calls PyProof.Rows
set_option maxRecDepth 100000 in
set_option maxHeartbeats 0 in
theorem PySem.Challenge.cw_wholesound_k23_firsts_that_return_holds : PySem.Challenge.rw_wholesound_k23_firsts_that_return.Holds := by
  w_on; o_law
  refine HandSHeadRun.head_any (r := OpenLaw.row PySem.Challenge.rw_wholesound_k23_firsts_that_return) (q := view (OpenLaw.row PySem.Challenge.rw_wholesound_k23_firsts_that_return).prog [56]) (H := My.hk) (ob := My.ob) (M := 8000) (loose := My.loose) (d := HandSHeadRun.topDef (OpenLaw.row PySem.Challenge.rw_wholesound_k23_firsts_that_return).prog 56) (kwd := []) My.ob_eq
    (by kernel_rfl) (fun s => by kernel_rfl) My.run (by kernel_rfl) (by kernel_rfl) (by kernel_rfl) (by rfl) (by first | assumption | decide +kernel) (by decide +kernel) ⟨rfl, rfl, rfl, rfl, rfl, by decide +kernel⟩ ?hw ?hc
  case hw => w_witness2
  case hc =>
    refine My.end_g (l := PySem.Challenge.rw_wholesound_k23_firsts_that_return) (n := 63) (k := 9) (x := "_law_script") rfl (by decide) (by kernel_rfl) ⟨rfl, by decide, by decide⟩ ?F
    intro w mg fa h Y G hmg0
    obtain ⟨K, KX, c⟩ := Y
    have hmg : mg ("law" : PySem.Str) = some (.ref fa) := by
      have e : (HandSHeadRun.topDef (OpenLaw.row PySem.Challenge.rw_wholesound_k23_firsts_that_return).prog 56).name = ("law" : PySem.Str) := by kernel_rfl
      rw [← e]
      exact hmg0
    have T : My.Top K mg := My.top_mk KX G c
    have e := hmg.symm.trans T.g_law
    cases e
    have b := L2.FunD.bindsA (ps := ["_law_script"]) T.F_law fun _ _ _ _ _ _ us hl => match us, hl with | [_], _ => rfl
    exact ⟨K, T.fd_law, My.sp_law K, KX, fun s v => b s [v] rfl, fun H a ns hl hS => ⟨a, ns, rfl, hS, hl, fun _ => rfl⟩, fun base _ _ => My.G_law (pf := ⟨by kernel_rfl, by kernel_rfl⟩) T⟩


