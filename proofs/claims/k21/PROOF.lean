import PyProof.Rows.All
import Wide.All
import OpenK.AllK
import Wide.FinOn
import KE.KStateDown
import Lean
import HandS.ForMost
import HandS.Exc
import HandS.Flow
import HandS.DictComp
import HandS.Style
import HandS.Wide
import HandS.WideBits
import HandS.IsInst
import HandS.Codes
import HandS.Walk
import HandS.Words
import HandS.WordsExc
import HandS.Defaults
import HandS.Head0
import HandS.Head1
import HandS.Head2
import HandS.HeadEnd
import HandS.HeadHook1
import HandS.HeadHook2
import HandS.SortInts
import PyProof.Rows.SortShellAny
import PyProof.InstNe
import KE.DataMinMax
import KE.SortData
import KE.IntBitsLaws
import KE.BitLaws
import HandS.Deep
import HandS.SetKeys
import PyProof.Rows.StrMul
import HandS.TupLe
import HandS.Property
import HandS.Conv
import HandS.NoneIn
import HandS.SetFor
import HandS.Strs
import HandS.Sort
import HandS.StrMore
import HandS.ExcInit
import HandS.ExcSuper
import HandS.Nested
import KE.KExcSuper
import HandS.ExcField
import HandS.TryMany
import HandS.ExcIs
import HandS.TryOnly
import HandS.CallSlots
import KE.KDictDisplayH
import PyProof.StrLawsFirst
import KE.GoesZip
import KE.GoesMore
import HandS.Zip
import PyProof.CallType
import PyProof.ZipIter
import PyProof.TupleIter
import PyProof.Rows.CallKwBuiltin
import HandS.Star
import PySem.Challenge.RW_wholesound_k21_rows_alike_for_ever
set_option Elab.async false
set_option linter.all false
set_option maxRecDepth 100000
set_option maxHeartbeats 4000000
set_option exponentiation.threshold 100000
namespace Pre
open PySem PySem.Spec PyProof.Rows L2
/-! ### heaps -/
theorem same_upd {H : Hp} {p : Addr} {o : HO} (h : H p = none) : Same H (upd H p o) := fun b x e => by
  rw [upd_ne (ne_of_none e h)]
  exact e
/-- a fresh thing that is then changed is no change of what was -/
theorem same_over {H H' : Hp} {p : Addr} {o : HO} (n : H p = none) (s : Same H H') : Same H (upd H' p o) := fun b x e => by
  rw [upd_ne (ne_of_none e n)]
  exact s b x e
theorem Same.tup {K : PySem.W.Frag} {H H' : Hp} {a : Addr} {xs : List V} (e : Same H H') (h : SqT K H a xs) : SqT K H' a xs := by
  rcases h with (h | ⟨o, h⟩) | h
  · exact .inl (.inl (e _ _ h))
  · exact .inl (.inr ⟨o, e _ _ h⟩)
  · exact .inr h
mutual
theorem dp_same {K : PySem.W.Frag} {H H' : Hp} (s : Same H H') : ∀ (d : PyData) (v : V), Dp K H v d → Dp K H' v d
  | .none, _, h => by cases h; exact .non
  | .bool _, _, h => by cases h; exact .bl _
  | .int _, _, h => by cases h; exact .int _
  | .str _, _, h => by cases h; exact .str _
  | .list ds, _, h => by cases h with | lst a b => exact .lst (s.seq a) (dps_same s ds _ b)
  | .tuple ds, _, h => by cases h with | tup a b => exact .tup (Same.tup s a) (dps_same s ds _ b)
  | .dict _, _, h => nomatch h
theorem dps_same {K : PySem.W.Frag} {H H' : Hp} (s : Same H H') : ∀ (ds : List PyData) (vs : List V), DpAll K H vs ds → DpAll K H' vs ds
  | [], _, h => by cases h; exact .nil
  | d :: ds, _, h => by cases h with | cons a b => exact .cons (dp_same s d _ a) (dps_same s ds _ b)
end
theorem dp_ints {K : PySem.W.Frag} {H : Hp} : ∀ ns : List Int, DpAll K H (ns.map V.int) (ns.map PyData.int)
  | [] => .nil
  | n :: r => .cons (.int n) (dp_ints r)
theorem eqv_ints : ∀ ns ms : List Int, PyData.eqvAll (ns.map PyData.int) (ms.map PyData.int) = decide (ns = ms)
  | [], [] => rfl
  | [], _ :: _ => rfl
  | _ :: _, [] => rfl
  | n :: r, m :: q => by
    show (PyData.eqv (.int n) (.int m) && PyData.eqvAll (r.map PyData.int) (q.map PyData.int)) = decide (n :: r = m :: q)
    rw [eqv_ints r q]
    show ((n == m) && decide (r = q)) = decide (n :: r = m :: q)
    by_cases h : n = m
    · subst h; simp
    · simp [h]
theorem lay_ints : ∀ ns : List Int, PyData.canLayAll0 (ns.map PyData.int) = true
  | [] => rfl
  | n :: r => by
    show (PyData.canLay0 (.int n) && PyData.canLayAll0 (r.map PyData.int)) = true
    rw [lay_ints r]
    rfl
theorem depth_ints : ∀ ns : List Int, PyData.depthAll (ns.map PyData.int) = 0
  | [] => by simp [PyData.depthAll]
  | n :: r => by
    show PyData.depthAll (.int n :: r.map PyData.int) = 0
    rw [PyData.depthAll, depth_ints r]
    simp [PyData.depth]
theorem shaped_ints (ns : List Int) : SeqAt.shaped (.list (ns.map PyData.int)) = true := by
  unfold SeqAt.shaped
  rw [PyData.canLay0, lay_ints, PyData.depth, depth_ints]
  rfl
theorem shaped_tup (ns : List Int) : SeqAt.shaped (.tuple (ns.map PyData.int)) = true := by
  unfold SeqAt.shaped
  rw [PyData.canLay0, lay_ints, PyData.depth, depth_ints]
  rfl
/-! ### comparisons of lists and tuples of whole numbers that are told alike -/
theorem ne_tup {K : PySem.W.Frag} {H : Hp} {a b : Addr} {ns : List Int} {Q : V → Hp → Prop} (ha : SqT K H a (ns.map V.int)) (hb : SqT K H b (ns.map V.int)) (q : Q (.bl false) H) : rNeD K (.ref a) (.ref b) H Q := by
  refine ⟨.tuple (ns.map PyData.int), .tuple (ns.map PyData.int), .tup ha (dp_ints ns), .tup hb (dp_ints ns), shaped_tup ns, shaped_tup ns, ?_⟩
  rw [PyData.eqv, eqv_ints, decide_eq_true rfl]
  exact q
theorem eq_tup {K : PySem.W.Frag} {H : Hp} {a b : Addr} {ns : List Int} {Q : V → Hp → Prop} (ha : SqT K H a (ns.map V.int)) (hb : SqT K H b (ns.map V.int)) (q : Q (.bl true) H) : rEqD K (.ref a) (.ref b) H Q := by
  refine ⟨.tuple (ns.map PyData.int), .tuple (ns.map PyData.int), .tup ha (dp_ints ns), .tup hb (dp_ints ns), shaped_tup ns, shaped_tup ns, ?_⟩
  rw [PyData.eqv, eqv_ints, decide_eq_true rfl]
  exact q
/-- lists of whole numbers, compared -/
theorem eqD_lst {K : PySem.W.Frag} {H : Hp} {a b : Addr} {ns ms : List Int} {Q : V → Hp → Prop} (ha : SqL K H a (ns.map V.int)) (hb : SqL K H b (ms.map V.int)) (q : Q (.bl (decide (ns = ms))) H) : rEqD K (.ref a) (.ref b) H Q := by
  refine ⟨.list (ns.map PyData.int), .list (ms.map PyData.int), .lst ha (dp_ints ns), .lst hb (dp_ints ms), shaped_ints ns, shaped_ints ms, ?_⟩
  rw [PyData.eqv, eqv_ints]
  exact q
theorem neD_lst {K : PySem.W.Frag} {H : Hp} {a b : Addr} {ns ms : List Int} {Q : V → Hp → Prop} (ha : SqL K H a (ns.map V.int)) (hb : SqL K H b (ms.map V.int)) (q : Q (.bl (!decide (ns = ms))) H) : rNeD K (.ref a) (.ref b) H Q := by
  refine ⟨.list (ns.map PyData.int), .list (ms.map PyData.int), .lst ha (dp_ints ns), .lst hb (dp_ints ms), shaped_ints ns, shaped_ints ms, ?_⟩
  rw [PyData.eqv, eqv_ints]
  exact q
theorem ne_lst {K : PySem.W.Frag} {H : Hp} {a b : Addr} {ns : List Int} {Q : V → Hp → Prop} (ha : SqL K H a (ns.map V.int)) (hb : SqL K H b (ns.map V.int)) (q : Q (.bl false) H) : rNeD K (.ref a) (.ref b) H Q :=
  neD_lst ha hb (by rw [decide_eq_true rfl]; exact q)
theorem eq_lst {K : PySem.W.Frag} {H : Hp} {a b : Addr} {ns : List Int} {Q : V → Hp → Prop} (ha : SqL K H a (ns.map V.int)) (hb : SqL K H b (ns.map V.int)) (q : Q (.bl true) H) : rEqD K (.ref a) (.ref b) H Q :=
  eqD_lst ha hb (by rw [decide_eq_true rfl]; exact q)
/-! ### powers -/
def CPowW (i j : Int) : Prop := 0 ≤ j ∧ (Builtin.Int.intBits i : Int) * j ≤ 2 ^ 27
theorem op_powW {X : Cx} : OpR X (binaryOp .Pow) (rI CPowW fun i j => .int (i ^ j.toNat)) := opI fun _ _ _ _ _ _ _ hc q => pow_int hc.1 hc.2 q
/-! ### comprehensions whose parts leave what is tracked as it is: sel tells of each item what comes of it -/
theorem take_fm {α : Type} {l : List (Option α)} {i : Nat} {o : Option α} (h : l[i]? = some o) : (l.take (i + 1)).filterMap id = (l.take i).filterMap id ++ o.toList := by
  rw [List.take_add_one, h, List.filterMap_append]
  cases o <;> rfl
theorem fm_len {α : Type} (l : List (Option α)) (i : Nat) : ((l.take i).filterMap id).length ≤ l.length :=
  Nat.le_trans (List.length_filterMap_le _ _) (by rw [List.length_take]; omega)
theorem lc_selL {K : PySem.W.Frag} {a : Addr} {xs : List V} {j : Nat} {tt : TT} {te : TE} {vs : List Nat} {σ : L2.St} {H1 : Hp} {D : Addr} {Qd : Hp → Prop} (sel : List (Option V)) (nD : H1 D = none) (hS : SqL K H1 a xs) (hlen : sel.length = xs.length) (hz : xs.length < sizeLine)
    (hw : ∀ x, wipe ((wipe σ vs).set j (some x)) vs = wipe σ vs)
    (hs : ∀ (i : Nat) (x : V) (o : Option V) (H' : Hp), xs[i]? = some x → sel[i]? = some o → Same H1 H' → ∀ Qt : Option V → Hp → Prop, (∀ H'', Same H' H'' → Qt o H'') →
      tt ((wipe σ vs).set j (some x)) H' fun b H3 => if b = true then te ((wipe σ vs).set j (some x)) H3 fun y H4 => Qt (some y) H4 else Qt none H3)
    (hd : ∀ H', Same H1 H' → H' D = some (.lst (sel.filterMap id)) → Qd H') :
    ∃ W : Nat → Nat → Hp → Prop, (∃ m, W 0 m (upd H1 D (.lst []))) ∧ ∀ i m H, W i m H →
      ((Itl K a).stop i H ∧ Qd H) ∨ ((Itl K a).go i H ∧ ∃ Nx : Hp → Prop, (∀ H', Nx H' → ∃ m', m' < m ∧ W (i + 1) m' H') ∧ ∀ x H', (Itl K a).yld i H x H' → gName j x (wipe σ vs) H' fun σ2 H2 => wipe σ2 vs = wipe σ vs ∧ tt σ2 H2 fun b H3 =>
        if b = true then te σ2 H3 fun y H4 => ∃ acc, H4 D = some (.lst acc) ∧ acc.length < sizeLine ∧ Nx (upd H4 D (.lst (acc ++ [y]))) else Nx H3) := by
  refine lc_list (K := K) (a := a) (xs := xs) (fun i H => Same H1 H ∧ H D = some (.lst ((sel.take i).filterMap id))) ⟨same_upd nD, upd_same⟩ (fun i H _ p => p.1.seq hS) ?_ ?_
  · rintro i x H hx ⟨s, hD⟩
    refine ⟨hw x, ?_⟩
    have hi : i < sel.length := by rw [hlen]; exact (List.getElem?_eq_some_iff.mp hx).1
    have ho : sel[i]? = some sel[i] := List.getElem?_eq_getElem hi
    have hl : ((sel.take i).filterMap id).length < sizeLine := Nat.lt_of_le_of_lt (fm_len sel i) (by omega)
    refine hs i x sel[i] H hx ho s (fun o H4 => match o with
      | some y => ∃ acc, H4 D = some (.lst acc) ∧ acc.length < sizeLine ∧ (Same H1 (upd H4 D (.lst (acc ++ [y]))) ∧ (upd H4 D (.lst (acc ++ [y]))) D = some (.lst ((sel.take (i + 1)).filterMap id)))
      | none => Same H1 H4 ∧ H4 D = some (.lst ((sel.take (i + 1)).filterMap id))) fun H4 s4 => ?_
    generalize sel[i] = o at ho ⊢
    cases o with
    | some y =>
      refine ⟨_, s4 _ _ hD, hl, same_over nD (s.trans s4), ?_⟩
      rw [upd_same, take_fm ho]
      rfl
    | none =>
      refine ⟨s.trans s4, ?_⟩
      rw [take_fm ho, s4 _ _ hD]
      simp
  · rintro H ⟨s, hD⟩
    refine hd H s ?_
    rw [hD, ← hlen, List.take_length]
theorem lc_selR {lo : Int} {n : Nat} {j : Nat} {tt : TT} {te : TE} {vs : List Nat} {σ : L2.St} {H1 : Hp} {D : Addr} {Qd : Hp → Prop} (sel : List (Option V)) (nD : H1 D = none) (hlen : sel.length = n) (hz : n < sizeLine)
    (hw : ∀ x, wipe ((wipe σ vs).set j (some x)) vs = wipe σ vs)
    (hs : ∀ (i : Nat) (o : Option V) (H' : Hp), i < n → sel[i]? = some o → Same H1 H' → ∀ Qt : Option V → Hp → Prop, (∀ H'', Same H' H'' → Qt o H'') →
      tt ((wipe σ vs).set j (some (.int (lo + (i : Int))))) H' fun b H3 => if b = true then te ((wipe σ vs).set j (some (.int (lo + (i : Int))))) H3 fun y H4 => Qt (some y) H4 else Qt none H3)
    (hd : ∀ H', Same H1 H' → H' D = some (.lst (sel.filterMap id)) → Qd H') :
    ∃ W : Nat → Nat → Hp → Prop, (∃ m, W 0 m (upd H1 D (.lst []))) ∧ ∀ i m H, W i m H →
      ((Itr lo n).stop i H ∧ Qd H) ∨ ((Itr lo n).go i H ∧ ∃ Nx : Hp → Prop, (∀ H', Nx H' → ∃ m', m' < m ∧ W (i + 1) m' H') ∧ ∀ x H', (Itr lo n).yld i H x H' → gName j x (wipe σ vs) H' fun σ2 H2 => wipe σ2 vs = wipe σ vs ∧ tt σ2 H2 fun b H3 =>
        if b = true then te σ2 H3 fun y H4 => ∃ acc, H4 D = some (.lst acc) ∧ acc.length < sizeLine ∧ Nx (upd H4 D (.lst (acc ++ [y]))) else Nx H3) := by
  refine lc_range (lo := lo) (n := n) (fun i H => Same H1 H ∧ H D = some (.lst ((sel.take i).filterMap id))) ⟨same_upd nD, upd_same⟩ ?_ ?_
  · rintro i H hi' ⟨s, hD⟩
    refine ⟨hw _, ?_⟩
    have hi : i < sel.length := by rw [hlen]; exact hi'
    have ho : sel[i]? = some sel[i] := List.getElem?_eq_getElem hi
    have hl : ((sel.take i).filterMap id).length < sizeLine := Nat.lt_of_le_of_lt (fm_len sel i) (by omega)
    refine hs i sel[i] H hi' ho s (fun o H4 => match o with
      | some y => ∃ acc, H4 D = some (.lst acc) ∧ acc.length < sizeLine ∧ (Same H1 (upd H4 D (.lst (acc ++ [y]))) ∧ (upd H4 D (.lst (acc ++ [y]))) D = some (.lst ((sel.take (i + 1)).filterMap id)))
      | none => Same H1 H4 ∧ H4 D = some (.lst ((sel.take (i + 1)).filterMap id))) fun H4 s4 => ?_
    generalize sel[i] = o at ho ⊢
    cases o with
    | some y =>
      refine ⟨_, s4 _ _ hD, hl, same_over nD (s.trans s4), ?_⟩
      rw [upd_same, take_fm ho]
      rfl
    | none =>
      refine ⟨s.trans s4, ?_⟩
      rw [take_fm ho, s4 _ _ hD]
      simp
  · rintro H ⟨s, hD⟩
    refine hd H s ?_
    rw [hD, ← hlen, List.take_length]
theorem fm_some {α : Type} (ys : List α) : (ys.map some).filterMap id = ys := by
  rw [List.filterMap_map]
  show List.filterMap (fun y => some y) ys = ys
  exact List.filterMap_some
/-- no test: ys tells what comes of each item -/
theorem lc_mapL {K : PySem.W.Frag} {a : Addr} {xs : List V} {j : Nat} {te : TE} {vs : List Nat} {σ : L2.St} {H1 : Hp} {D : Addr} {Qd : Hp → Prop} (ys : List V) (nD : H1 D = none) (hS : SqL K H1 a xs) (hlen : ys.length = xs.length) (hz : xs.length < sizeLine)
    (hw : ∀ x, wipe ((wipe σ vs).set j (some x)) vs = wipe σ vs)
    (hs : ∀ (i : Nat) (x y : V) (H' : Hp), xs[i]? = some x → ys[i]? = some y → Same H1 H' → ∀ Qt : V → Hp → Prop, (∀ H'', Same H' H'' → Qt y H'') → te ((wipe σ vs).set j (some x)) H' Qt)
    (hd : ∀ H', Same H1 H' → H' D = some (.lst ys) → Qd H') :
    ∃ W : Nat → Nat → Hp → Prop, (∃ m, W 0 m (upd H1 D (.lst []))) ∧ ∀ i m H, W i m H →
      ((Itl K a).stop i H ∧ Qd H) ∨ ((Itl K a).go i H ∧ ∃ Nx : Hp → Prop, (∀ H', Nx H' → ∃ m', m' < m ∧ W (i + 1) m' H') ∧ ∀ x H', (Itl K a).yld i H x H' → gName j x (wipe σ vs) H' fun σ2 H2 => wipe σ2 vs = wipe σ vs ∧ tYes σ2 H2 fun b H3 =>
        if b = true then te σ2 H3 fun y H4 => ∃ acc, H4 D = some (.lst acc) ∧ acc.length < sizeLine ∧ Nx (upd H4 D (.lst (acc ++ [y]))) else Nx H3) := by
  refine lc_selL (K := K) (a := a) (xs := xs) (tt := tYes) (ys.map some) nD hS (by rw [List.length_map]; exact hlen) hz hw ?_ ?_
  · intro i x o H' hx ho s Qt qt
    rw [List.getElem?_map] at ho
    obtain ⟨y, hy, rfl⟩ := Option.map_eq_some_iff.mp ho
    show if true = true then te ((wipe σ vs).set j (some x)) H' (fun y H4 => Qt (some y) H4) else Qt none H'
    exact iteT (hs i x y H' hx hy s (fun y H4 => Qt (some y) H4) qt)
  · intro H' s hD
    rw [fm_some] at hD
    exact hd H' s hD
theorem lc_mapR {lo : Int} {n : Nat} {j : Nat} {te : TE} {vs : List Nat} {σ : L2.St} {H1 : Hp} {D : Addr} {Qd : Hp → Prop} (ys : List V) (nD : H1 D = none) (hlen : ys.length = n) (hz : n < sizeLine)
    (hw : ∀ x, wipe ((wipe σ vs).set j (some x)) vs = wipe σ vs)
    (hs : ∀ (i : Nat) (y : V) (H' : Hp), i < n → ys[i]? = some y → Same H1 H' → ∀ Qt : V → Hp → Prop, (∀ H'', Same H' H'' → Qt y H'') → te ((wipe σ vs).set j (some (.int (lo + (i : Int))))) H' Qt)
    (hd : ∀ H', Same H1 H' → H' D = some (.lst ys) → Qd H') :
    ∃ W : Nat → Nat → Hp → Prop, (∃ m, W 0 m (upd H1 D (.lst []))) ∧ ∀ i m H, W i m H →
      ((Itr lo n).stop i H ∧ Qd H) ∨ ((Itr lo n).go i H ∧ ∃ Nx : Hp → Prop, (∀ H', Nx H' → ∃ m', m' < m ∧ W (i + 1) m' H') ∧ ∀ x H', (Itr lo n).yld i H x H' → gName j x (wipe σ vs) H' fun σ2 H2 => wipe σ2 vs = wipe σ vs ∧ tYes σ2 H2 fun b H3 =>
        if b = true then te σ2 H3 fun y H4 => ∃ acc, H4 D = some (.lst acc) ∧ acc.length < sizeLine ∧ Nx (upd H4 D (.lst (acc ++ [y]))) else Nx H3) := by
  refine lc_selR (lo := lo) (n := n) (tt := tYes) (ys.map some) nD (by rw [List.length_map]; exact hlen) hz hw ?_ ?_
  · intro i o H' hi ho s Qt qt
    rw [List.getElem?_map] at ho
    obtain ⟨y, hy, rfl⟩ := Option.map_eq_some_iff.mp ho
    show if true = true then te ((wipe σ vs).set j (some (.int (lo + (i : Int))))) H' (fun y H4 => Qt (some y) H4) else Qt none H'
    exact iteT (hs i y H' hi hy s (fun y H4 => Qt (some y) H4) qt)
  · intro H' s hD
    rw [fm_some] at hD
    exact hd H' s hD
/-- an item of a list of whole numbers -/
theorem int_at {ns : List Int} {i : Nat} {x : V} (h : (ns.map V.int)[i]? = some x) : ∃ n, ns[i]? = some n ∧ x = .int n := by
  rw [List.getElem?_map] at h
  obtain ⟨n, hn, e⟩ := Option.map_eq_some_iff.mp h
  exact ⟨n, hn, e.symm⟩
/-! ### rules with the written part named (within a comprehension Lean doesn't find it) -/
section
variable {X : Cx}
theorem k_len (K : PySem.W.Frag) (h : X.K = K) : CallR X (.builtin "len") (fun xs H Q => ∃ p ys, xs = [.ref p] ∧ (SqL K H p ys ∨ SqT K H p ys) ∧ Q (.int ys.length) H) := by subst h; exact call_len_seq
theorem k_sum (K : PySem.W.Frag) (h : X.K = K) (hc : X.calm = true) : CallR X (.builtin "sum") (rSum K) := by subst h; exact cr_sum hc
theorem k_max (K : PySem.W.Frag) (h : X.K = K) (hc : X.calm = true) : CallR X (.builtin "max") (rMax K) := by subst h; exact cr_max hc
theorem k_min (K : PySem.W.Frag) (h : X.K = K) (hc : X.calm = true) : CallR X (.builtin "min") (rMin K) := by subst h; exact cr_min hc
theorem k_isi (K : PySem.W.Frag) (h : X.K = K) : CallR X (.builtin "isinstance") (rIsi K) := by subst h; exact call_isi
theorem k_listOf (K : PySem.W.Frag) (h : X.K = K) : CallR X (.type "list") (fun xs H Q => ∃ p ys, xs = [.ref p] ∧ (SqL K H p ys ∨ SqT K H p ys) ∧ ∀ l, H l = none → Q (.ref l) (upd H l (.lst ys))) := by subst h; exact call_list_of
theorem k_tupleOf (K : PySem.W.Frag) (h : X.K = K) : CallR X (.type "tuple") (fun xs H Q => ∃ p ys, xs = [.ref p] ∧ ((SqL K H p ys ∧ ∀ l, H l = none → Q (.ref l) (upd H l (.tup ys))) ∨ (SqT K H p ys ∧ Q (.ref p) H))) := by subst h; exact call_tuple_of
theorem k_ixL (K : PySem.W.Frag) (h : X.K = K) : IxR X (rIxL K) := by subst h; exact ix_list
theorem k_ixT (K : PySem.W.Frag) (h : X.K = K) : IxR X (rIxT K) := by subst h; exact ix_tup
theorem k_slL (K : PySem.W.Frag) (h : X.K = K) : SlR X (rSlL K) := by subst h; exact sl_list
theorem k_slT (K : PySem.W.Frag) (h : X.K = K) : SlR X (rSlT K) := by subst h; exact sl_tup
theorem k_eqD (K : PySem.W.Frag) (h : X.K = K) (hu : X.A.units + 64 < cLine) : OpR X (compareOp .Eq) (rEqD K) := by subst h; exact op_eqD hu
theorem k_neD (K : PySem.W.Frag) (h : X.K = K) (hu : X.A.units + 64 < cLine) : OpR X (compareOp .NotEq) (rNeD K) := by subst h; exact op_neD hu
theorem k_in (K : PySem.W.Frag) (h : X.K = K) : OpR X (compareOp .In) (rIn K false) := by subst h; exact op_in_seq
theorem k_notIn (K : PySem.W.Frag) (h : X.K = K) : OpR X (compareOp .NotIn) (rIn K true) := by subst h; exact op_notIn_seq
theorem k_piL (K : PySem.W.Frag) (h : X.K = K) {tg l : Expr} {tl : TE} (hl : PE X l tl) : PI X tg l (iList K tl) := by subst h; exact pi_list hl
theorem k_piT (K : PySem.W.Frag) (h : X.K = K) {tg l : Expr} {tl : TE} (hl : PE X l tl) : PI X tg l (iTup K tl) := by subst h; exact pi_tup hl
theorem k_piE (K : PySem.W.Frag) (h : X.K = K) {e : Expr} {ta : TA} {p pos tpos : Pos} {elts : List Expr} {kk : Nat} (hg : Gl X "enumerate") (hm : X.mg "enumerate" = none) (ha : PA X [e] ta) (hs : starEach [e] X.env = [(false, eval e X.env)] := by rfl) : PI X (.Tuple elts kk tpos) (.Call (.Name "enumerate" p) [e] [] pos) (iEnum K ta) := by subst h; exact pi_enum hg hm ha hs
theorem k_pgT (K : PySem.W.Frag) (h : X.K = K) {es : List Expr} {k : Nat} {t : TGs} {n : Nat} {pos : Pos} (hc : X.calm = true) (hp : PGs X es t) (hn : (assignEach es X.env).length = n := by rfl) (hst : (assignEach es X.env).findIdx? (·.1) = none := by rfl) : PG X (.Tuple es k pos) (gTup K n t) := by subst h; exact pg_tup hc hp hn hst
theorem k_pgL (K : PySem.W.Frag) (h : X.K = K) {es : List Expr} {k : Nat} {t : TGs} {n : Nat} {pos : Pos} (hc : X.calm = true) (hp : PGs X es t) (hn : (assignEach es X.env).length = n := by rfl) (hst : (assignEach es X.env).findIdx? (·.1) = none := by rfl) : PG X (.Tuple es k pos) (gUnl K n t) := by subst h; exact pg_unl hc hp hn hst
theorem k_fld (K : PySem.W.Frag) (h : X.K = K) {e : Expr} {f : Str} {pos : Pos} {ta : TE} (he : PE X e ta) (hb : attributeBase e f X.env (eval e X.env) = eval e X.env) : PE X (.Attribute e f pos) (tFld K ta f) := by subst h; exact pe_fld he hb
theorem k_index (K : PySem.W.Frag) (h : X.K = K) : MtR X "list.index" (rIndex K) := by subst h; exact mt_index
end
/-! ### small things -/
theorem fresh {H : Hp} {p : Addr} (o : HO) (np : H p = none) : ∃ H', upd H p o = H' ∧ Same H H' ∧ H' p = some o := ⟨_, rfl, same_upd np, upd_same⟩
theorem cut_take (xs : List V) (k : Nat) : cutV xs none (some (k : Int)) = xs.take k := by
  unfold cutV
  rw [HT.sIx_nat, HT.sIx_none, List.drop_zero, Nat.sub_zero]
  rcases Nat.le_total k xs.length with h | h
  · rw [Nat.min_eq_left h]
  · rw [Nat.min_eq_right h, List.take_of_length_le h, List.take_length]
theorem cut_drop (xs : List V) (k : Nat) : cutV xs (some (k : Int)) none = xs.drop k := by
  unfold cutV
  rw [HT.sIx_nat, HT.sIx_none]
  rcases Nat.le_total k xs.length with h | h
  · rw [Nat.min_eq_left h, List.take_of_length_le (by rw [List.length_drop]; exact Nat.le_refl _)]
  · rw [Nat.min_eq_right h, List.drop_length, List.drop_of_length_le h, List.take_nil]
theorem rep_ints (k : Nat) (ks : List Int) : (List.replicate k (ks.map V.int)).flatten = ((List.replicate k ks).flatten).map V.int := by
  rw [List.map_flatten, List.map_replicate]
theorem rep_len {α : Type} (k : Nat) (ks : List α) : ((List.replicate k ks).flatten).length = k * ks.length := by
  induction k with
  | zero => simp
  | succ k ih => rw [List.replicate_succ, List.flatten_cons, List.length_append, ih, Nat.succ_mul]; omega
theorem rep_mem {α : Type} {k : Nat} {ks : List α} {x : α} (h : x ∈ (List.replicate k ks).flatten) : x ∈ ks := by
  obtain ⟨l, hl, hx⟩ := List.mem_flatten.mp h
  rw [(List.mem_replicate.mp hl).2] at hx
  exact hx
/-! ### comprehensions that make new things: R tells what is known of the i-th; D is no part of it -/
def Off (D : Addr) (H H' : Hp) : Prop := ∀ b o, b ≠ D → H b = some o → H' b = some o
def RelPv (R : Nat → V → Hp → Prop) (H1 : Hp) (D : Addr) (i : Nat) (H : Hp) : Prop := ∃ ys : List V, Same H1 H ∧ H D = some (.lst ys) ∧ ys.length = i ∧ ∀ (k : Nat) (y : V), ys[k]? = some y → R k y H
theorem lc_relR {lo : Int} {n : Nat} {j : Nat} {te : TE} {vs : List Nat} {σ : L2.St} {H1 : Hp} {D : Addr} {Qd : Hp → Prop} (R : Nat → V → Hp → Prop) (nD : H1 D = none) (hz : n < sizeLine)
    (mono : ∀ i y H H', Off D H H' → R i y H → R i y H')
    (hw : ∀ x, wipe ((wipe σ vs).set j (some x)) vs = wipe σ vs)
    (hs : ∀ (i : Nat) (H' : Hp) (xs : List V), i < n → Same H1 H' → H' D = some (.lst xs) → ∀ Qt : V → Hp → Prop, (∀ y H'', Same H' H'' → R i y H'' → Qt y H'') → te ((wipe σ vs).set j (some (.int (lo + (i : Int))))) H' Qt)
    (hd : ∀ H' ys, Same H1 H' → H' D = some (.lst ys) → ys.length = n → (∀ (i : Nat) (y : V), ys[i]? = some y → R i y H') → Qd H') :
    ∃ W : Nat → Nat → Hp → Prop, (∃ m, W 0 m (upd H1 D (.lst []))) ∧ ∀ i m H, W i m H →
      ((Itr lo n).stop i H ∧ Qd H) ∨ ((Itr lo n).go i H ∧ ∃ Nx : Hp → Prop, (∀ H', Nx H' → ∃ m', m' < m ∧ W (i + 1) m' H') ∧ ∀ x H', (Itr lo n).yld i H x H' → gName j x (wipe σ vs) H' fun σ2 H2 => wipe σ2 vs = wipe σ vs ∧ tYes σ2 H2 fun b H3 =>
        if b = true then te σ2 H3 fun y H4 => ∃ acc, H4 D = some (.lst acc) ∧ acc.length < sizeLine ∧ Nx (upd H4 D (.lst (acc ++ [y]))) else Nx H3) := by
  refine lc_range (lo := lo) (n := n) (RelPv R H1 D) ⟨[], same_upd nD, upd_same, rfl, fun k y h => by simp at h⟩ ?_ ?_
  · rintro i H hi ⟨ys, s, hD, hl, hR⟩
    refine ⟨hw _, ?_⟩
    show if true = true then te ((wipe σ vs).set j (some (.int (lo + (i : Int))))) H (fun y H4 => ∃ acc, H4 D = some (.lst acc) ∧ acc.length < sizeLine ∧ RelPv R H1 D (i + 1) (upd H4 D (.lst (acc ++ [y])))) else RelPv R H1 D (i + 1) H
    refine iteT (hs i H ys hi s hD _ fun y H4 s4 r4 => ?_)
    refine ⟨ys, s4 _ _ hD, by omega, ys ++ [y], same_over nD (s.trans s4), upd_same, by rw [List.length_append, hl]; rfl, fun k z hz => ?_⟩
    have off : Off D H4 (upd H4 D (.lst (ys ++ [y]))) := fun b o nb h => by rw [upd_ne nb]; exact h
    by_cases hk : k < ys.length
    · rw [List.getElem?_append_left hk] at hz
      exact mono k z H _ (fun b o nb h => off b o nb (s4 b o h)) (hR k z hz)
    · rw [List.getElem?_append_right (by omega)] at hz
      have hk2 : k - ys.length = 0 := by
        have h2 := (List.getElem?_eq_some_iff.mp hz).1
        rw [List.length_singleton] at h2
        omega
      rw [hk2] at hz
      cases hz
      have ek : k = i := by omega
      rw [ek]
      exact mono i y H4 _ off r4
  · rintro H ⟨ys, s, hD, hl, hR⟩
    exact hd H ys s hD hl hR
/-! ### ways that are told by whole numbers -/
theorem iteDT {p A B : Prop} [Decidable p] (hp : p) (h : A) : if decide p = true then A else B := by rw [decide_eq_true hp]; exact iteT h
theorem iteDF {p A B : Prop} [Decidable p] (hp : ¬ p) (h : B) : if decide p = true then A else B := by rw [decide_eq_false hp]; exact iteF h
theorem iteNT {p A B : Prop} [Decidable p] (hp : ¬ p) (h : A) : if (!decide p) = true then A else B := by rw [decide_eq_false hp]; exact iteT h
theorem iteNF {p A B : Prop} [Decidable p] (hp : p) (h : B) : if (!decide p) = true then A else B := by rw [decide_eq_true hp]; exact iteF h
theorem iteET {a b : Int} {A B : Prop} [Decidable (V.int a = V.int b)] (hp : a = b) (h : A) : if decide (V.int a = V.int b) = true then A else B := iteDT (congrArg V.int hp) h
theorem iteEF {a b : Int} {A B : Prop} [Decidable (V.int a = V.int b)] (hp : ¬ a = b) (h : B) : if decide (V.int a = V.int b) = true then A else B := iteDF (fun z => hp (V.int.inj z)) h
theorem iteENT {a b : Int} {A B : Prop} [Decidable (V.int a = V.int b)] (hp : ¬ a = b) (h : A) : if (!decide (V.int a = V.int b)) = true then A else B := iteNT (fun z => hp (V.int.inj z)) h
theorem iteENF {a b : Int} {A B : Prop} [Decidable (V.int a = V.int b)] (hp : a = b) (h : B) : if (!decide (V.int a = V.int b)) = true then A else B := iteNF (congrArg V.int hp) h
theorem iteNtt {A B : Prop} (h : B) : if (!true) = true then A else B := h
theorem iteNff {A B : Prop} (h : A) : if (!false) = true then A else B := h
/-- 1 or 0 of a comparison -/
theorem int_if {p : Prop} [Decidable p] : (if decide p = true then (1 : Int) else 0) = if p then 1 else 0 := by by_cases h : p <;> simp [h]
end Pre

namespace My
open PySem PySem.Spec PyProof.Rows L2
/-! ### own errors whose __init__ says super().__init__(value); self.value = value -/
namespace Sup
open PySem.W PySem.Calls
section
variable {prog : Program} {w : World} {A : Around} {E : Value → Shared → Prop} {h : Heap} {g : Array GenState} {d : Drawn} {t : Nat} {os : OsState}
variable {nm q : Str} {C N : Addr} {bs bm : List Value} {hdct : Bool} {sn : List Str} {sub : List Value} {ab : Bool} {col : Option Bool} {dd : Option Addr} {k0 k1 k2 k3 k5 : Option Value}
theorem call_bwV {u e t0 : Addr} {rest : List Value} {Q : Value → Shared → Prop}
    (hC : h.get? C = some (excClassObj nm q C N bs bm hdct sn sub ab col dd k0 k1 k2 k3 k5 "ValueError.__new__")) (he : h.get? e = some (HandSPX.excO C t0)) (hu : h.get? u = some (kxs_mw "ValueError.__init__" e)) (hrest : rest.length ≤ sizeLine)
    (hq : ∀ h' t1, (∀ b o, b ≠ e → h.get? b = some o → h'.get? b = some o) → h'.get? e = some (HandSPX.excO C t1) → Q .none ⟨h', g, d, t, os⟩) :
    wpAny (model prog w) A (call (.ref u) rest) Q E ⟨h, g, d, t, os⟩ := by
  refine wpAny_call (codeAny_of_tree ?_)
  show wpAny _ A.in1 (callAny (.ref u) ⟨rest, []⟩) _ _ _
  simp only [callAny]
  refine wpAny_bind (wpAny_load hu ?_)
  simp only [kxs_mw, show (Value.type "method-wrapper" == Value.type "method" || Value.type "method-wrapper" == Value.type "builtin_function_or_method" || Value.type "method-wrapper" == Value.type "method-wrapper") = true by decide, if_true]
  refine W.KFB.if_so (by decide) ?_
  refine wpAny_bind (ESX.check_bound F.excBase_ValueError hC he rfl ?_)
  refine wpAny_bind (wpAny_pure (wpAny_pure ?_))
  refine ⟨Code.quiet_builtin _ (by decide +kernel), codeAny_builtin F.excBase_ValueError.initEntry ?_⟩
  rw [Around.under_plainId F.excBase_ValueError.init.plain _]
  exact exc_init_tree (cls := .ref C) (t0 := t0) (dv := none) (c2 := .none) (c3 := .none) (b4 := .bool false) he hrest fun h' k e' _ => hq h' _ k e'
end
/-- the file of the program: what its code objects are asked for -/
class PF (P : Program) (file : Str) : Prop where
  file : ((P.main.file : Str) == file) = true
  top : (P.main.scope.names.lookup ("super" : Str)).isSome = false
/-- what the written part says of such a class C, named x, and its __init__ at fI -/
structure SupC (K : Frag) (file x : Str) (st : Stmt) (C fI : Addr) (fd : FuncData) : Prop where
  T : OexC K C
  ex : ∃ (oc : Value) (od : Option Addr) (dV kV doc pm : Value) (an : Option Addr) (c cc : Addr) (ct : Value) (osl : Array (Option Value)),
    fd = ksFn "__init__" (x ++ (".__init__" : Str)) (defArgs st) (defBody st) (defScope st) dV kV doc pm an (.ref c) ct cc ∧ K.lookup fI = some ⟨oc, od, .func fd, osl⟩ ∧ codeIn K (.ref c) (x ++ (".__init__" : Str)) = true ∧
    (∃ (ccl : Value) (cdd : Option Addr) (vs : Array Value) (ccs : Array (Option Value)) (tf : Tok), K.lookup c = some ⟨ccl, cdd, .fields vs, ccs⟩ ∧ vs[2]? = some (.str file tf)) ∧ (∃ (cl : Value) (cld : Option Addr) (csl : Array (Option Value)), K.lookup cc = some ⟨cl, cld, .cell (some (.ref C)), csl⟩)
  sup : ks_superIn K C C "__init__" = some (some (.builtin "ValueError.__init__"))
  subV : subIn K (.ref C) (.type "ValueError") = some true
  subC : mroIn K C (.ref C) = some true
  opq : nsIn K cStatics "thirdparty.any" = some none
  nov : findIn K (.ref C) "value" = some none
/-- the body's shape -/
def SupBody (st : Stmt) : Prop := ∃ p0 p1 p2 p3 p4 p5 p6 p7 p8 p9 : Pos,
  defBody st = [.Expr (.Call (.Attribute (.Call (.Name "super" p0) [] [] p1) "__init__" p2) [.Name "value" p3] [] p4) p5, .Assign [.Attribute (.Name "self" p6) "value" p7] (.Name "value" p8) p9] ∧
  ((defArgs st).posonlyargs ++ (defArgs st).args).head?.map (·.arg) = some ("self" : Str) ∧
  ∀ env : Env, ∃ pl : Sem Bool, eval (.Call (.Attribute (.Call (.Name "super" p0) [] [] p1) "__init__" p2) [.Name "value" p3] [] p4) env = (do
      let ov ← attributeBase (.Call (.Name "super" p0) [] [] p1) "__init__" env (eval (.Call (.Name "super" p0) [] [] p1) env)
      standAt p2.atName
      let (f, first) ← holding [ov] (getMethod ov "__init__" pl)
      callWith p4 f first (backTo p4 (starEach [.Name "value" p3] env)) [])
def sp_exc_init (C : Addr) : Sp := fun vs H Q _ => ∃ (a : Addr) (v : V), vs = [.ref a, v] ∧ H a = some (exo a C none) ∧ ∀ d, H d = none → d ≠ a → Q .non (upd (upd H d (exd d [("value", v)])) a (exo a C (some d)))
section
variable {P : Program} {w : World} {K : Frag} {mg : Str → Option Value} {base : Heap} {CX : CXT} {file x : Str} {st : Stmt} {C fI : Addr} {fd : FuncData}
theorem fn_sup [pf : PF P file] (S : NdefX.NScope ["self", "value", "__class__"] ["self", "value"] ["__class__"] (defScope st)) (hgs : (defScope st).names.lookup ("super" : Str) = some .globalImplicit) (hb0 : SupBody st) (F : SupC K file x st C fI fd) (nosup : mg ("super" : Str) = none) :
    FnOk P w K mg base CX 1 fI fd ["self", "value"] (sp_exc_init C) := by
  refine ⟨fun vs H Q E h => by obtain ⟨a, v, rfl, _⟩ := h; rfl, fun A outer s H args us vs Q E hr e0 hb rv hsp => ?_⟩
  obtain ⟨a, v, rfl, ha, q⟩ := hsp
  obtain ⟨oc, od, dV, kV, doc, pm, an, c, cc, ct, osl, rfl, lk, hcd, ⟨ccl, cdd, cvs, ccs, tf, lkc, hvs⟩, cl, cld, csl, lkcc⟩ := F.ex
  obtain ⟨p0, p1, p2, p3, p4, p5, p6, p7, p8, p9, hbody, hself, hev⟩ := hb0
  obtain ⟨pl, hpl⟩ := hev (NdefX.envF ⟨"__init__", x ++ (".__init__" : Str), defArgs st, defBody st, defScope st, [("__class__", cc)], c⟩ fI s.heap.objs.size)
  have hin : K.In s.heap := e0.mod.kin.keeps fun b o z => (e0.bs b o z).1
  have lim : s.heap.NoLimit := e0.mod.nolimit.keeps fun b o e => (e0.bs b o e).1
  let Fn : NdefX.NF := ⟨"__init__", x ++ (".__init__" : Str), defArgs st, defBody st, defScope st, [("__class__", cc)], c⟩
  refine codeAny_call_function hr.depth (hin _ _ lk) rfl S.co S.gen rfl (codeRec_of hin hcd) (hb _ _ _ _ ?_)
  refine wpAny_newFunctionEnv S.nocell (fun ⟨n, _⟩ hy => S.par n (List.of_mem_zip hy).1) (fun h₁ hns hsb => ⟨lim.fresh _ hsb, ?_⟩) S.kind
  show codeAny _ _ (.func (defBody st) (NdefX.envF Fn fI s.heap.objs.size)) _ _
  have kp : ∀ b o, s.heap.get? b = some o → h₁.get? b = some o := fun b o e => hsb.extBut b o (Nat.ne_of_lt (Heap.lt_size e)) (Heap.get?_push_of_some _ e)
  have hcc : ∀ y c', ([("__class__", cc)] : List (Str × Addr)).lookup y = some c' → y = ("__class__" : Str) ∧ c' = cc := fun y c' e => by
    by_cases h : y = ("__class__" : Str)
    · subst h
      cases e
      exact ⟨rfl, rfl⟩
    · rw [List.lookup_cons, show (y == ("__class__" : Str)) = false by simpa using h] at e
      cases e
  have cells : NdefX.CellsAt Fn.cl ["__class__"] [some (.ref C)] s.heap H := {
    len := rfl
    all := fun y c' e => by
      obtain ⟨_, rfl⟩ := hcc y c' e
      exact ⟨(e0.bs _ _ (e0.mod.kin _ _ lkcc)).2, _, _, hin _ _ lkcc, rfl⟩
    inj := fun y z c' e1 e2 => by rw [(hcc y c' e1).1, (hcc z c' e2).1]
    has := fun i y e => by
      cases i with
      | zero =>
        cases e
        refine ⟨cc, rfl, fun u hu => ?_⟩
        cases hu
        exact ⟨.ref C, rfl, _, hin _ _ lkcc, rfl⟩
      | succ i => simp at e }
  have I : Inv (NdefX.ncx CX P w K mg base ["self", "value", "__class__"] Fn fI A outer s H E) [] (NdefX.startF ["self", "value", "__class__"] [.ref a, v] [some (.ref C)]) H { s with heap := h₁, toks := s.toks + (["self", "value"].zip us).length } := NdefX.inv_startN S hr.hd e0 rfl rv cells hns kp
  obtain ⟨nm, q0, N, bs, bm, sn, sub, ab, col, dd, k0, k1, k2, k3, k5, hC, hbm⟩ := F.T.cls
  have hcl : clsIn K C = some { name := nm, bases := bs, mro := .ref C :: bm, ns := N, qualname := q0, hasDict := true, slotNames := sn, subclasses := sub, abstract := ab, collection := col, hasDel := false } := by unfold clsIn; rw [hC] <;> rfl
  refine ks_codeAny_funcAt ?_
  rw [hbody]
  obtain ⟨ar, hp, har⟩ : ∃ ar, ((defArgs st).posonlyargs ++ (defArgs st).args).head? = some ar ∧ ar.arg = ("self" : Str) := by
    cases e : ((defArgs st).posonlyargs ++ (defArgs st).args).head? with
    | none => rw [e] at hself; cases hself
    | some ar => rw [e] at hself; exact ⟨ar, rfl, Option.some.inj hself⟩
  have X1 : K.In h₁ := hin.keeps kp
  obtain ⟨ual, rfl⟩ : ∃ u1, us = [.ref a, u1] := by
    cases rv with
    | cons r1 r2 => cases r2 with
      | cons r3 r4 => cases r4; cases r1; exact ⟨_, rfl⟩
  refine ks_wpAt_execs_cons (ks_wpAt_Expr_any (ks_wpAt_MethodCall (pl := pl) ?_ hpl) I.quiet)
  refine ks_wpAt_super_base (env := NdefX.envF Fn fI s.heap.objs.size) hgs (S.frk _ (by simp)) (by decide) rfl (X1 _ _ lk) rfl hp rfl (X1 _ _ lkc) rfl hvs pf.file pf.top ?_
  obtain ⟨mb, hb1, hb2⟩ := I.mod.blt
  refine ks_loadName_global S.kind hgs (loadGlobal_builtin (env := NdefX.envF Fn fI s.heap.objs.size) (I.mod.glob.keeps I.bk) nosup (hb1.keeps I.bk) ((hb2 _ (by decide)).trans (show bootBuiltins "super" = some (.type "super") by decide +kernel)) ⟨rfl, ?_⟩)
  refine wpAny_loadName_free S.kind (S.frk _ (by simp)) rfl ⟨_, X1 _ _ lkcc, rfl⟩ ?_
  rw [har]
  refine wpAny_loadName_local S.kind (S.par _ (by simp)) hns rfl ?_
  obtain ⟨t1, he0⟩ := exo_at e0.hok ha
  have he1 := kp _ _ he0
  refine ks_wpAny_isType_cls (X1 _ _ hC) rfl ⟨rfl, ?_⟩
  refine ks_wpAny_call_super (X1 _ _ hC) rfl he1 rfl (fun c e => by cases e) (looks_mroIn X1 F.subC) (fun h2 hso k2 => ?_)
  have X2 : K.In h2 := X1.keeps k2
  have he2 := k2 _ _ he1
  have IA : InstAt h2 a (HandSPX.excO C t1) C none := ⟨he2, rfl, rfl, trivial⟩
  have hf := F.sup
  unfold ks_superIn at hf
  rw [hcl] at hf
  refine kxs_getMethod kxs_ValueError hso (looks_opaque X2 F.opq) (l₀ := .ref C :: bm) (fun A Q E s k q => wpAny_bind ((looks_clsIn X2 hcl) A _ E s k (wpAny_pure q))) rfl X2 hf (IA.type.andThen (looks_subIn X2 F.subV)) (ks_ne X2 IA hcl) (by decide) ?_
  have k3 : ∀ b o, h₁.get? b = some o → (h2.push (kxs_mw "ValueError.__init__" a)).get? b = some o := fun b o e => Heap.get?_push_of_some _ (k2 b o e)
  have I3 := I.kept (h' := h2.push (kxs_mw "ValueError.__init__" a)) (t' := s.toks + (["self", "value"].zip [Value.ref a, ual]).length + 1) k3
  refine kxs_callWith (i := "ValueError.__init__") (x := a) rfl ?_
  rw [show starEach [Expr.Name "value" p3] (NdefX.envF Fn fI s.heap.objs.size) = (false, eval (.Name "value" p3) (NdefX.envF Fn fI s.heap.objs.size)) :: starEach [] (NdefX.envF Fn fI s.heap.objs.size) from rfl]
  refine evalArgs_plain ?_
  refine spliced_cons ?_
  obtain ⟨m, hn, hl⟩ := I3.loc
  obtain ⟨u, ru, l⟩ := hl 1 "value" v rfl rfl (.inl (S.par _ (by simp)))
  have fin : wpAny (model P w) (A.deeper (NdefX.envF Fn fI s.heap.objs.size)) (eval (.Name "value" p3) (NdefX.envF Fn fI s.heap.objs.size)) (fun z s' => z = u ∧ s' = { s with heap := h2.push (kxs_mw "ValueError.__init__" a), toks := s.toks + (["self", "value"].zip [Value.ref a, ual]).length + 1 }) (fun e s' =>
      wpAny (model P w) (A.deeper (NdefX.envF Fn fI s.heap.objs.size)) (leaving (NdefX.envF Fn fI s.heap.objs.size) e)
        (fun x s'' => CR CX outer P w H s Q E (Except.error e) s'')
        (fun e' s'' => CR CX outer P w H s Q E (Except.error e') s'') s') { s with heap := h2.push (kxs_mw "ValueError.__init__" a), toks := s.toks + (["self", "value"].zip [Value.ref a, ual]).length + 1 } := by
    rcases l with ⟨hk, hm⟩ | ⟨hk, _⟩
    · exact wpAny_Name (wpAny_loadName_local S.kind hk hn hm ⟨rfl, rfl⟩) (by decide)
    · have hv : (defScope st).names.lookup ("value" : Str) = some .local := S.par _ (by simp)
      rcases hk with hk | hk <;> exact absurd (hv.symm.trans hk) (by intro z; cases z)
  refine wpAny_mono fin (fun z s' hz => ?_) fun _ _ z => z
  obtain ⟨rfl, rfl⟩ := hz
  refine spliced_nil ⟨Heap.get?_push_at rfl rfl, ?_⟩
  refine call_bwV (e := a) (t0 := t1) (X2.keeps (fun b o e => Heap.get?_push_of_some _ e) _ _ hC) (Heap.get?_push_of_some _ he2) (Heap.get?_push_at rfl rfl) (by show 1 ≤ sizeLine; decide) fun h' t2 k4 hx => ?_
  refine wpAt_of_wpAny ?_
  have J := I3.write (t' := s.toks + (["self", "value"].zip [Value.ref a, ual]).length + 1) (x := a) (e := a) (o := exo a C none) (by rw [ha]; exact True.intro) (.inl rfl) k4 ⟨_, hx⟩ (exo_ok hx)
  have eu : upd H a (exo a C none) = H := by
    funext b
    by_cases hb : b = a
    · rw [hb, upd_same, ha]
    · rw [upd_ne hb]
  rw [eu] at J
  have ht : PSs (NdefX.ncx CX P w K mg base ["self", "value", "__class__"] Fn fI A outer s H E) [.Assign [.Attribute (.Name "self" p6) "value" p7] (.Name "value" p8) p9] (tOst K "value" (tVar 0) (tVar 1)) :=
    pss_one (ps_ost (pe_var (i := 0) rfl (.inl (S.par _ (by simp)))) (pe_var (i := 1) rfl (.inl (S.par _ (by simp)))))
  refine wpAny_mono (ht.run [] _ _ H { nx := fun _ H' => Q .non H', rt := Q } J ⟨v, rfl, .ref a, rfl, a, C, rfl, F.T, F.nov, .inl ⟨ha, fun dx n ne => q dx n ne⟩⟩) (fun fl s' hs => ?_) fun e s' hs => hs
  have fin : ∀ {σ' : L2.St} {H' : Hp} {v : V} {u : Value}, Inv (NdefX.ncx CX P w K mg base ["self", "value", "__class__"] Fn fI A outer s H E) [] σ' H' s' → L2.RelV v u → Q v H' → CE outer P w H s Q u s' :=
    fun {σ' H' v u} J rv q => ⟨v, H', J.os, J.bare, J.base, J.hok, rv, q⟩
  cases fl with
  | ret u =>
    obtain ⟨v, σ', H', J, rv, q⟩ := hs
    exact fin J rv q
  | next =>
    obtain ⟨σ', H', J, q⟩ := hs
    exact fin (v := V.non) (u := Value.none) J rfl q
  | brk =>
    obtain ⟨_, _, _, q⟩ := hs
    exact False.elim q
  | cont =>
    obtain ⟨_, _, _, q⟩ := hs
    exact False.elim q
end
end Sup
end My

namespace My
open PySem PySem.Spec PyProof.Rows L2
/-! ### such an error raised; its value in an except suite; several clauses with a name -/
/-- what is left to be shown behind the making of such an error with the value v -/
theorem mk_sup {C : Addr} {v : V} {H1 : Hp} {Q : XK} (q : ∀ d, H1 d = none → Q (.ref C) (some d) (upd H1 d (.xd [("value", v)]))) : [v].length ≤ 1000 ∧ ∀ a, H1 a = none → Sup.sp_exc_init C (.ref a :: ([v] ++ [])) (upd H1 a (exo a C none))
    (fun w H2 => w = .non ∧ ∃ (d : Addr) (fs : List (Str × V)), H2 a = some (exo a C (some d)) ∧ H2 d = some (exd d fs) ∧ H1 d = none ∧ Q (.ref C) (some d) (upd (del H2 a) d (.xd fs))) (fun _ _ _ => False) := by
  refine ⟨by show 1 ≤ 1000; decide, fun a na => ⟨a, v, rfl, upd_same, fun d nd da => ⟨rfl, d, [("value", v)], upd_same, ?_, ?_, ?_⟩⟩⟩
  · rw [upd_ne da, upd_same]
  · rw [upd_ne da] at nd
    exact nd
  · have hn : H1 d = none := by rw [upd_ne da] at nd; exact nd
    have e : upd (del (upd (upd (upd H1 a (exo a C none)) d (exd d [("value", v)])) a (exo a C (some d))) a) d (.xd [("value", v)]) = upd H1 d (.xd [("value", v)]) := by
      funext b
      by_cases hb : b = d
      · rw [hb, upd_same, upd_same]
      · rw [upd_ne hb, upd_ne hb]
        by_cases hba : b = a
        · rw [hba, del_same, na]
        · rw [del_ne hba, upd_ne hba, upd_ne hb, upd_ne hba]
    rw [e]
    exact q d hn
/-- the reading of err.f, the class of err told there -/
def tXfA (K : PySem.W.Frag) (a : Addr) (cls : Value) (d : Option Addr) (f : Str) (te : TE) : TE := fun σ H Q => te σ H fun x H1 => x = .ref a ∧ ∃ C : Addr, cls = .ref C ∧ XfC K C ∧ PySem.W.findIn K (.ref C) f = some none ∧ ∃ (dd : Addr) (fs : List (Str × V)) (v : V), d = some dd ∧ H1 dd = some (.xd fs) ∧ fs.lookup f = some v ∧ Q v H1
theorem pe_xfA {X : Cx} {a : Addr} {oe : Obj} {cls : Value} {d : Option Addr} {pn : List (Addr × Obj)} {e : Expr} {te : TE} {pos : Pos} {n : Str}
    (hz : Zc cls d oe) (hf : ∃ vs, oe.data = .fields vs) (he : PE (X.suite a ((a, oe) :: pn)) e te) (hb : attributeBase e n X.env (eval e X.env) = eval e X.env := by rfl) :
    PE (X.suite a ((a, oe) :: pn)) (.Attribute e n pos) (tXfA X.K a cls d n te) := by
  refine ⟨fun pins s σ H Q I h => ?_⟩
  refine attr_of hb (thn (he.run pins s σ H _ I h) fun u s1 hh => ?_)
  obtain ⟨x, H1, I1, rx, ex, C, ec, T, hno, dd, fs, v, ed, ea, l, q⟩ := hh
  subst ex
  obtain rfl : u = Value.ref a := rx
  subst ec
  subst ed
  obtain ⟨ha, _⟩ := I1.pin (a, oe) (List.mem_append_left _ List.mem_cons_self)
  obtain ⟨vs, hd⟩ := hf
  have hx : ObjOk X.prog X.w H1 s1.heap dd (.xd fs) := I1.hok dd _ ea
  obtain ⟨mA, hns, hr⟩ := hx
  obtain ⟨od, ho, hl⟩ := lookIn_ns hns
  obtain ⟨u, hu, ru⟩ := RelO.some_of (v := v) (o := mA n) (by rw [← l]; exact hr n)
  have J : PySem.W.InstAt s1.heap a oe C (some od) := ⟨ha, hz.1, by unfold PySem.W.notCls; rw [hd] <;> rfl, by rw [hz.2]; exact ho⟩
  exact HandSPX.exc_get I1.kIn J T.ga T.gg T.exC (PySem.W.findObj_own T.hdC hno rfl (by rw [hl, hu])) (handed_of ru) ⟨v, H1, I1.tok _, ru, q⟩
/-- what the clauses 'except x as n' wish of an exception of the body, one after the other; slot i is n's -/
def wManyAs (K : PySem.W.Frag) (i : Nat) (Wout : WX) (D : Ends) : List (Value × (Addr → Value → Option Addr → TS)) → WX
  | [] => Wout
  | (c, ts) :: r => fun cls d σ H => ∃ b, PySem.W.exmOne K cls c = some b ∧ (b = true → ∀ a, H a = none → ts a cls d { nx := fun σ' H' => D.nx (σ'.set i none) H', rt := D.rt, bk := fun σ' H' => D.bk (σ'.set i none) H', ct := fun σ' H' => D.ct (σ'.set i none) H' } (σ.set i (some (.ref a))) H) ∧
    (b = false → wManyAs K i Wout D r cls d σ H)
inductive HdsAs (X : Cx) (n : Str) : List ExceptHandler → List (Value × (Addr → Value → Option Addr → TS)) → Prop
  | nil : HdsAs X n [] []
  | cons {x : Str} {c : Value} {ts : Addr → Value → Option Addr → TS} {b₀ : Stmt} {suite : List Stmt} {np pos' : Pos} {hds : List ExceptHandler} {l : List (Value × (Addr → Value → Option Addr → TS))} (hc : Names X x c)
      (hsu : ∀ (a : Addr) (oe : Obj) (cls : Value) (d : Option Addr) (pn : List (Addr × Obj)), Zc cls d oe → (∃ vs, oe.data = .fields vs) → PSs (X.suite a ((a, oe) :: pn)) (b₀ :: suite) (ts a cls d)) (r : HdsAs X n hds l) :
      HdsAs X n (.ExceptHandler (some (.Name x np)) (some n) (b₀ :: suite) pos' :: hds) ((c, ts) :: l)
section
variable {X : Cx} {n : Str} {i : Nat} {body : List Stmt} {h₀ : ExceptHandler} {hds : List ExceptHandler} {l : List (Value × (Addr → Value → Option Addr → TS))} {pos : Pos} {tb : WX → TS} {Wout : WX}
theorem ps_try_manyAs (hs : X.stack = X.env :: X.outer) (hf : X.env.frame = some X.env.locals) (hN : X.N.Nodup) (hi : X.N[i]? = some n) (hln : X.env.kindOf n = some .local) (tk : Takes X Wout)
    (hb : ∀ (W : WX) (pn : List (Addr × Obj)) (xe : Value → Shared → Prop), Takes (X.tr pn xe) W → PassesOwn (model X.prog X.w) X.A X.env xe → PSs (X.tr pn xe) body (tb W))
    (hh : HdsAs X n (h₀ :: hds) l) : PS X (.Try body (h₀ :: hds) [] [] pos) (fun D σ H => tb (wManyAs X.K i Wout D l) D σ H) := by
  refine ⟨fun pins s σ H D I h => ?_⟩
  have ok := I.ok
  have hfr : X.A.frames = some (X.env :: X.outer) := by rw [ok.frames, hs]
  have hloc : Loc X.env.scope n := .inl hln
  refine wpAny_Try_except ?_
  refine wpAny_mono ((hb (wManyAs X.K i Wout D l) (X.pn ++ pins) (fun e s₁ => wpAny (model X.prog X.w) X.A (noteFrame e X.env) (fun _ s₂ => wpAny (model X.prog X.w) X.A (setFlight e none) (fun _ s₃ =>
    wpAny (model X.prog X.w) X.A (handleBy e X.env (h₀ :: hds)) (SP X pins D) X.xe s₃) X.xe s₂) X.xe s₁) (fun u s' xx => ?_) PassesOwn.looking).run [] s σ H D (I.toTry _) h) (fun f s1 hsp => ?_) (fun e s1 he => he)
  · -- the catch
    obtain ⟨a, B, sI, pins', σ', H', cls, d, rfl, J', nb, up, sky, na, os, ag, w⟩ := xx
    have J : Inv X pins σ' H' sI := J'.ofTry ok
    have sky' : Sky B (X.env :: X.outer) a (Zc cls d) X.env.locals s'.heap := by rw [← hs]; exact sky
    show wpAny (model X.prog X.w) X.A (noteFrame (.ref a) X.env) _ _ _
    refine Sky.land Zc.steady hfr hf sky' fun h3 fl3 up3 => ?_
    have J3 : Inv X pins σ' H' { s' with heap := h3 } := J.landed nb fl3.1 (up.trans up3) os ag
    obtain ⟨oe3, vs3, he3, hz3, hd3⟩ := fl3.there
    have notFr : ∀ {h : Heap} {o : Obj} {vs : Array Value}, h.FunFrames B (X.env :: X.outer) → h.get? a = some o → o.data = .fields vs → a ∉ frs (X.env :: X.outer) := fun {h o vs} ff e dd hm => by
      obtain ⟨_, o', e', hnf⟩ := ff.mem hm
      rw [e] at e'; cases e'
      exact hnf _ dd
    have nfr := notFr fl3.2.2.1 he3 hd3
    have nL : a ≠ X.env.locals := fun z => nfr (List.mem_filterMap.mpr ⟨X.env, List.mem_cons_self, by rw [hf, z]⟩)
    have nF : a ∉ X.fs := fun hm => by
      obtain ⟨e, he, q⟩ := List.mem_filterMap.mp hm
      exact nfr (List.mem_filterMap.mpr ⟨e, List.mem_cons_of_mem _ he, q⟩)
    have S3 := J3.suite he3 hd3 na nL nF
    have go : ∀ {hds' : List ExceptHandler} {l' : List (Value × (Addr → Value → Option Addr → TS))}, HdsAs X n hds' l' → wManyAs X.K i Wout D l' cls d σ' H' →
        wpAny (model X.prog X.w) X.A (handleBy (.ref a) X.env hds') (SP X pins D) X.xe { s' with heap := h3 } := by
      intro hds' l' hk
      induction hk with
      | nil =>
        intro w
        refine wpAny_handleBy_nil ?_
        obtain ⟨k1, k2, k3, oe, vs, T, oT, ts', he, hz, hd, h1, hr⟩ := id fl3
        unfold PySem.passOn
        refine wpAny_bind (wpAny_field he hd h1 ?_)
        rw [if_neg (show ¬ ((Value.ref T == Value.none) = true) from by simp)]
        have fin : wpAny (model X.prog X.w) X.A (setFlight (.ref a) X.env.frame) (fun _ s4 => wpAny (model X.prog X.w) X.A (throw (.ref a) : Sem Flow) (SP X pins D) X.xe s4) X.xe { s' with heap := h3 } := by
          rw [hf]
          refine HandSPX.setFlight_upZ fl3 fun h4 hh4 up4 => wpAny_throw (tk _ _ ?_)
          exact ⟨a, B, sI, pins, σ', H', cls, d, rfl, J, nb, (up.trans up3).trans up4, .inr (.inr (by rw [hs]; exact hh4)), na, os, ag, w⟩
        first
          | exact wpAny_bind (wpAny_pure (wpAny_bind fin))
          | exact wpAny_bind fin
      | @cons x c ts b₀ suite np pos' hds2 l2 hc hsu r ih =>
        intro w
        obtain ⟨b, hb1, hyes, hno⟩ := w
        refine wpAny_handleBy_cons (codeAny_handlers_test ?_) (by intro q; cases q)
        have LT : PySem.W.Looks (model X.prog X.w) h3 (typeOf (.ref a)) cls := fun A Q E s k q => wpAny_typeOf_ref (k _ _ he3) (by rw [hz3.1]; exact q)
        have LM := PySem.W.exm_one (M := model X.prog X.w) (J3.kIn) LT hb1
        have test : ∀ {Q : Value → Shared → Prop} {E : Value → Shared → Prop}, Q c { s' with heap := h3 } → wpAny (model X.prog X.w) (X.A.mark (some (.ref a))) (eval (.Name x np) X.env) Q E { s' with heap := h3 } := fun {Q E} q => by
          obtain ⟨hg, hdbg, hm | ⟨hm, hv, hnn⟩⟩ := hc
          · exact ld_glob (X := X.suite a ((a, oe3) :: (X.pn ++ pins))) S3 hg hm q hdbg
          · exact ld_blt (X := X.suite a ((a, oe3) :: (X.pn ++ pins))) S3 hg hm hv q hnn hdbg
        refine test (LM.here ?_)
        cases b with
        | true =>
          refine codeAny_handlers_suite_as ?_
          refine HandSPX.lands_againZ fl3 fun h4 fl4 up4 => ?_
          have J4 : Inv X pins σ' H' { s' with heap := h4 } := J.landed nb fl4.1 ((up.trans up3).trans up4) os ag
          obtain ⟨oe4, vs4, he4, hz4, hd4⟩ := fl4.there
          have S4 := J4.suite he4 hd4 na nL nF
          refine store_ok (X := X.suite a ((a, oe4) :: (X.pn ++ pins))) (v := .ref a) S4 hN hi hloc rfl (fun s5 S5 => ?_) (.inr hln)
          refine wpAny_mono ((hsu a oe4 cls d (X.pn ++ pins) hz4 ⟨_, hd4⟩).run [] s5 _ H' _ S5 (hyes rfl a na)) (fun f s6 hsp => ?_) (fun _ _ z => False.elim z)
          have end_ : ∀ {σ6 : L2.St} {H6 : Hp} {Q : Shared → Prop}, Inv (X.suite a ((a, oe4) :: (X.pn ++ pins))) [] σ6 H6 s6 → (∀ s7, Inv X pins (σ6.set i none) H6 s7 → Q s7) →
              wpAny (model X.prog X.w) X.A (do bindName X.env n .none; unbindBehindTheSuite X.env n pos') (fun _ s7 => Q s7) X.xe s6 := fun {σ6 H6 Q} S6 hq => gone_ok (S6.unsuite ok) hN hi hln hq
          cases f with
          | next =>
            obtain ⟨σ6, H6, S6, q6⟩ := hsp
            exact end_ S6 fun s7 J7 => ⟨_, _, J7, q6⟩
          | brk =>
            obtain ⟨σ6, H6, S6, q6⟩ := hsp
            exact end_ S6 fun s7 J7 => ⟨_, _, J7, q6⟩
          | cont =>
            obtain ⟨σ6, H6, S6, q6⟩ := hsp
            exact end_ S6 fun s7 J7 => ⟨_, _, J7, q6⟩
          | ret u =>
            obtain ⟨v6, σ6, H6, S6, r6, q6⟩ := hsp
            exact end_ S6 fun s7 J7 => ⟨_, _, _, J7, r6, q6⟩
        | false =>
          show wpAny _ X.A (handleBy (.ref a) X.env hds2) _ _ _
          exact ih (hno rfl)
    exact go hh w
  · cases f with
    | next =>
      obtain ⟨σ', H', J', q⟩ := hsp
      exact wpAny_execs_nil ⟨σ', H', J'.ofTry ok, q⟩
    | brk =>
      obtain ⟨σ', H', J', q⟩ := hsp
      exact ⟨σ', H', J'.ofTry ok, q⟩
    | cont =>
      obtain ⟨σ', H', J', q⟩ := hsp
      exact ⟨σ', H', J'.ofTry ok, q⟩
    | ret u =>
      obtain ⟨v, σ', H', J', r, q⟩ := hsp
      exact ⟨v, σ', H', J'.ofTry ok, r, q⟩
end
end My

namespace My
open PySem PySem.Spec PyProof.Rows L2
/-! ### own errors as they stand behind the top: what is asked of the written part -/
abbrev ErW : Type := Option (Str × Str × Arguments × FuncBody × Scope × Addr × Addr)
def erI (K : PySem.W.Frag) (x : Str) : Addr := match PySem.W.findIn K (.ref (He.ga K x)) "__init__" with
  | some (some (.ref a)) => a
  | _ => 0
def erW (K : PySem.W.Frag) (x : Str) : ErW := match K.lookup (erI K x) with
  | some ⟨_, _, .func fd, _⟩ => some (fd.name, fd.qualname, fd.params, fd.body, fd.scope, fd.globals, fd.builtins)
  | _ => none
/-- an own error class over ValueError -/
def oexB (K : PySem.W.Frag) (C : Addr) : Bool := match K.lookup C with
  | some ⟨.type "type", _, .cls cd, sl⟩ => (match cd.mro, sl.toList with
    | .ref C' :: bm, [_, _, _, _, some (.builtin n), _] => C' == C && (n == ("ValueError.__new__" : String) && (!cd.hasDel && (cd.hasDict && PySem.HandSPX.refsVE bm)))
    | _, _ => false)
  | _ => false
theorem oexB_ok {K : PySem.W.Frag} {C : Addr} (q : oexB K C = true) : ∃ nm qn N bs bm sn sub ab col dd k0 k1 k2 k3 k5, K.lookup C = some (excClassObj nm qn C N bs bm true sn sub ab col dd k0 k1 k2 k3 k5 "ValueError.__new__") ∧ PySem.HandSPX.refsVE bm = true := by
  unfold oexB at q
  split at q
  · rename_i dd cd sl ho
    split at q
    · rename_i C' bm k0 k1 k2 k3 n k5 hm hs
      simp only [Bool.and_eq_true, beq_iff_eq, Bool.not_eq_true'] at q
      obtain ⟨rfl, rfl, hdel, hdict, ht⟩ := q
      obtain ⟨nm, bs, mro, ns, qn, hd, sn, sub, ab, col, del⟩ := cd
      dsimp only at hm hdel hdict
      subst hm hdel hdict
      have hsl : sl = #[k0, k1, k2, k3, some (.builtin "ValueError.__new__"), k5] := by
        obtain ⟨l⟩ := sl
        simp only at hs
        rw [hs]
      subst hsl
      exact ⟨nm, qn, ns, bs, bm, sn, sub, ab, col, dd, k0, k1, k2, k3, k5, ho, ht⟩
    · cases q
  · cases q
/-- its __init__: one cell, of the class; code of the file; one default, None -/
def iniB (K : PySem.W.Frag) (file x : Str) : Bool := match K.lookup (erI K x) with
  | some ⟨_, _, .func fd, _⟩ => (match fd.closure with
    | [(n, cc)] => decide (n = ("__class__" : Str)) && ((match K.lookup cc with
      | some ⟨_, _, .cell (some (.ref C')), _⟩ => C' == He.ga K x
      | _ => false) && ((match fd.code with
        | .ref c => (match K.lookup c with
          | some ⟨_, _, .fields vs, _⟩ => (match (vs[2]? : Option Value) with
            | some (Value.str f _) => decide (f = file)
            | _ => false)
          | _ => false)
        | _ => false) && (PySem.W.codeIn K fd.code (x ++ (".__init__" : Str)) && (He.dflB K fd.defaults [.non] && He.kwdB K fd.kwdefaults []))))
    | _ => false)
  | _ => false
def errB (K : PySem.W.Frag) (file x : Str) : Bool :=
  oexB K (He.ga K x) && (iniB K file x && (xfB K (He.ga K x) && (decide (PySem.W.findIn K (.ref (He.ga K x)) "__setattr__" = some (some (.builtin "object.__setattr__"))) && (decide (PySem.W.subIn K (.ref (He.ga K x)) (.type "BaseException") = some true) && (decide (PySem.W.typeIn K (.ref (He.ga K x)) = some (.type "type")) && (PySem.W.keepIn K (.ref (He.ga K x)) &&
  (decide (PySem.W.ks_superIn K (He.ga K x) (He.ga K x) "__init__" = some (some (.builtin "ValueError.__init__"))) && (decide (PySem.W.subIn K (.ref (He.ga K x)) (.type "ValueError") = some true) && (decide (PySem.W.mroIn K (He.ga K x) (.ref (He.ga K x)) = some true) && (decide (PySem.W.nsIn K cStatics "thirdparty.any" = some none) && (decide (PySem.W.findIn K (.ref (He.ga K x)) "value" = some none) &&
  (decide (PySem.W.findIn K (.ref (He.ga K x)) "__init__" = some (some (.ref (erI K x)))) && decide (PySem.W.typeIn K (.ref (erI K x)) = some (.type "function"))))))))))))))
structure ErrC (K : PySem.W.Frag) (file x : Str) (st : Stmt) (C fI : Addr) (fd : FuncData) : Prop where
  sup : Sup.SupC K file x st C fI fd
  ini : PySem.W.findIn K (.ref C) "__init__" = some (some (.ref fI))
  ity : PySem.W.typeIn K (.ref fI) = some (.type "function")
  bnd : Binds K fd ["self", "value"] []
  xf : XfC K C
theorem err_ok {K : PySem.W.Frag} {file x : Str} {st : Stmt} (h : errB K file x = true) (e : erW K x = some (("__init__" : Str), x ++ (".__init__" : Str), defArgs st, FuncBody.stmts (defBody st), defScope st, mainGlobals, builtinsNs))
    (hb : ∀ (T cc : Addr) (kV doc pm : Value) (an : Option Addr) (cdv ct : Value) (us its : List Value), us.length = 2 → its.length = 1 →
      ∃ k, bindArgs (PySem.W.ksFn "__init__" (x ++ (".__init__" : Str)) (defArgs st) (defBody st) (defScope st) (.ref T) kV doc pm an cdv ct cc) ⟨us, []⟩ = seqItems? (.ref T) >>= k ∧ k (some its.toArray) = pure ((["self", "value"] : List Str).zip us)) :
    ∃ fd, ErrC K file x st (He.ga K x) (erI K x) fd := by
  unfold errB at h
  obtain ⟨h1, h⟩ := He.ba h
  obtain ⟨h2, h⟩ := He.ba h
  obtain ⟨h3, h⟩ := He.ba h
  obtain ⟨h4, h⟩ := He.ba h
  obtain ⟨h5, h⟩ := He.ba h
  obtain ⟨h6, h⟩ := He.ba h
  obtain ⟨h7, h⟩ := He.ba h
  obtain ⟨h8, h⟩ := He.ba h
  obtain ⟨h9, h⟩ := He.ba h
  obtain ⟨h10, h⟩ := He.ba h
  obtain ⟨h11, h⟩ := He.ba h
  obtain ⟨h12, h⟩ := He.ba h
  obtain ⟨h13, h14⟩ := He.ba h
  unfold iniB at h2
  unfold erW at e
  cases q : K.lookup (erI K x) with
  | none => rw [q] at e; cases e
  | some o =>
    obtain ⟨oc, od, dt, osl⟩ := o
    rw [q] at e h2
    cases dt with
    | func fd =>
      obtain ⟨n1, n2, n3, n4, n5, n6, n7, n8, n9, n10, n11, n12, n13, n14, n15⟩ := fd
      have e2 : (some (n1, n2, n3, n4, n5, n6, n15) : ErW) = some (("__init__" : Str), x ++ (".__init__" : Str), defArgs st, FuncBody.stmts (defBody st), defScope st, mainGlobals, builtinsNs) := e
      simp only [Option.some.injEq, Prod.mk.injEq] at e2
      obtain ⟨r1, r2, r3, r4, r5, r6, r7⟩ := e2
      subst r1 r2 r3 r4 r5 r6 r7
      dsimp only at h2
      split at h2
      · rename_i n cc
        obtain ⟨k1, h2⟩ := He.ba h2
        obtain ⟨k2, h2⟩ := He.ba h2
        obtain ⟨k3, h2⟩ := He.ba h2
        obtain ⟨k4, h2⟩ := He.ba h2
        obtain ⟨k5, k6⟩ := He.ba h2
        obtain rfl := of_decide_eq_true k1
        split at k2
        · rename_i cl cld C' csl lcc
          obtain rfl := beq_iff_eq.mp k2
          split at k3
          · rename_i c0
            split at k3
            · rename_i ccl cdd vs ccs lc
              split at k3
              · rename_i f tf hvs
                obtain rfl := of_decide_eq_true k3
                have D := He.dflB_ok k5
                refine ⟨_, ⟨⟨⟨oexB_ok h1, of_decide_eq_true h4, of_decide_eq_true h5, of_decide_eq_true h6, h7⟩, ⟨oc, od, n8, n9, n10, n11, n12, _, cc, n14, osl, rfl, q, k4, ⟨ccl, cdd, vs, ccs, tf, lc, hvs⟩, cl, cld, csl, lcc⟩,
                  of_decide_eq_true h8, of_decide_eq_true h9, of_decide_eq_true h10, of_decide_eq_true h11, of_decide_eq_true h12⟩, of_decide_eq_true h13, of_decide_eq_true h14, ?_, xfB_ok h3⟩⟩
                rcases D with ⟨z, _⟩ | ⟨_, T, o, its, m, rfl, lT, oT, rT⟩
                · cases z
                · intro s us X hlen
                  rw [List.append_nil] at hlen ⊢
                  obtain ⟨k, e1, e2⟩ := hb T cc n9 n10 n11 n12 _ n14 us its hlen rT.length.symm
                  refine BindsTo.of_looks fun M => ?_
                  refine Eq.mpr (congrArg (fun z => PySem.W.Looks M s.heap z _) e1) ?_
                  exact looks_items X lT oT (.of_pure e2)
              · cases k3
            · cases k3
          · cases k3
        · cases k2
      · cases h2
    | _ => cases e
end My

namespace My
open PySem PySem.Spec PyProof.Rows L2
/-! ### an error kept behind its clause: asked by isinstance, its value read -/
/-- a caught error: its class, its dict -/
def ExK (cls : Value) (d : Option Addr) (a : Addr) : HO := .ext fun h => ∃ (oe : Obj) (vs : Array Value), h.get? a = some oe ∧ Zc cls d oe ∧ oe.data = .fields vs
section
variable {X : Cx} {pins : List (Addr × Obj)} {σ : L2.St} {H : Hp} {s : Shared} {a : Addr}
/-- what is not there in a state is none of what the state speaks of -/
theorem _root_.L2.Inv.newIn (I : Inv X pins σ H s) (hx : X.ex = []) (na : s.heap.get? a = none) : X.s_0.heap.get? a = none ∧ a ≠ X.env.locals ∧ (∀ x c, X.env.cells.lookup x = some c → a ≠ c) ∧ ∀ p ∈ X.pn ++ pins, a ≠ p.1 := by
  refine ⟨?_, ?_, ?_, ?_⟩
  · cases e : X.s_0.heap.get? a with
    | none => rfl
    | some o =>
      obtain ⟨o', e'⟩ := I.base.there a o e (by rw [hx]; exact fun z => nomatch z)
      rw [na] at e'
      cases e'
  · obtain ⟨m, ⟨o, es, ep, ho, _⟩, _⟩ := I.loc
    exact fun e => by rw [← e, na] at ho; cases ho
  · intro x c e z
    obtain ⟨v, o, ho, _⟩ := I.cell x c e
    rw [← z, na] at ho
    cases ho
  · intro p hp z
    have ho := (I.pin p hp).1
    rw [← z, na] at ho
    cases ho
/-- an object that is there is from now on told of -/
theorem _root_.L2.Inv.track {cls : Value} {d : Option Addr} {oe : Obj} {vs : Array Value} (I : Inv X pins σ H s) (ha : s.heap.get? a = some oe) (z : Zc cls d oe) (hd : oe.data = .fields vs) (na : H a = none) (n0 : X.s_0.heap.get? a = none) (nL : a ≠ X.env.locals)
    (nC : ∀ x c, X.env.cells.lookup x = some c → a ≠ c) (nP : ∀ p ∈ X.pn ++ pins, a ≠ p.1) : Inv X pins σ (upd H a (ExK cls d a)) s := by
  have ne : ∀ {b : Addr} {o : HO}, H b = some o → b ≠ a := fun {b o} e q => by rw [q, na] at e; cases e
  refine ⟨I.ok, I.os, I.bare, ⟨I.base.keep, I.base.slot, fun b o e n hx => ?_, I.base.there, fun b xs e => ?_, fun b o u e => ?_, fun b ps e => ?_⟩, I.loc, I.cell, ?_, fun x c e => ?_, fun p hp => ?_, fun b u e => ?_, I.len⟩
  · rw [upd_ne fun q => by rw [q, n0] at e; cases e]
    exact I.base.free b o e n hx
  · have q := I.base.tups b xs e
    rw [upd_ne (ne q)]
    exact q
  · have q := I.base.frzs b o u e
    rw [upd_ne (ne q)]
    exact q
  · obtain ⟨m, q⟩ := I.base.tbls b ps e
    exact ⟨m, by rw [upd_ne (ne q)]; exact q⟩
  · rw [upd_ne fun q => nL q.symm]
    exact I.free
  · rw [upd_ne fun q => nC x c e q.symm]
    exact I.freeC x c e
  · obtain ⟨e, n, r⟩ := I.pin p hp
    exact ⟨e, by rw [upd_ne fun q => nP p hp q.symm]; exact n, r⟩
  · by_cases hb : b = a
    · subst hb
      rw [upd_same] at e
      cases e
      exact ⟨⟨oe, vs, ha, z, hd⟩, ⟨oe, ha⟩, fun _ _ ⟨o, v, q, r⟩ k => ⟨o, v, k o q, r⟩⟩
    · rw [upd_ne hb] at e
      exact (I.hok b u e).stay (fun c v _ q => q) (fun c q => by rw [upd_ne (ne q)]; exact q) fun c xs q => by rw [upd_ne (ne q)]; exact q
end
/-- as wManyAs, the error told of behind the clause -/
def wKeepAs (K : PySem.W.Frag) (i : Nat) (Wout : WX) (D : Ends) : List (Value × (Addr → Value → Option Addr → TS)) → WX
  | [] => Wout
  | (c, ts) :: r => fun cls d σ H => ∃ b, PySem.W.exmOne K cls c = some b ∧ (b = true → ∀ a, H a = none → ts a cls d { nx := fun σ' H' => D.nx (σ'.set i none) (upd H' a (ExK cls d a)), rt := D.rt, bk := fun σ' H' => D.bk (σ'.set i none) H', ct := fun σ' H' => D.ct (σ'.set i none) H' } (σ.set i (some (.ref a))) H) ∧
    (b = false → wKeepAs K i Wout D r cls d σ H)
section
variable {X : Cx} {n : Str} {i : Nat} {body : List Stmt} {h₀ : ExceptHandler} {hds : List ExceptHandler} {l : List (Value × (Addr → Value → Option Addr → TS))} {pos : Pos} {tb : WX → TS} {Wout : WX}
theorem ps_try_keep (hx0 : X.ex = []) (hs : X.stack = X.env :: X.outer) (hf : X.env.frame = some X.env.locals) (hN : X.N.Nodup) (hi : X.N[i]? = some n) (hln : X.env.kindOf n = some .local) (tk : Takes X Wout)
    (hb : ∀ (W : WX) (pn : List (Addr × Obj)) (xe : Value → Shared → Prop), Takes (X.tr pn xe) W → PassesOwn (model X.prog X.w) X.A X.env xe → PSs (X.tr pn xe) body (tb W))
    (hh : HdsAs X n (h₀ :: hds) l) : PS X (.Try body (h₀ :: hds) [] [] pos) (fun D σ H => tb (wKeepAs X.K i Wout D l) D σ H) := by
  refine ⟨fun pins s σ H D I h => ?_⟩
  have ok := I.ok
  have hfr : X.A.frames = some (X.env :: X.outer) := by rw [ok.frames, hs]
  have hloc : Loc X.env.scope n := .inl hln
  refine wpAny_Try_except ?_
  refine wpAny_mono ((hb (wKeepAs X.K i Wout D l) (X.pn ++ pins) (fun e s₁ => wpAny (model X.prog X.w) X.A (noteFrame e X.env) (fun _ s₂ => wpAny (model X.prog X.w) X.A (setFlight e none) (fun _ s₃ =>
    wpAny (model X.prog X.w) X.A (handleBy e X.env (h₀ :: hds)) (SP X pins D) X.xe s₃) X.xe s₂) X.xe s₁) (fun u s' xx => ?_) PassesOwn.looking).run [] s σ H D (I.toTry _) h) (fun f s1 hsp => ?_) (fun e s1 he => he)
  · -- the catch
    obtain ⟨a, B, sI, pins', σ', H', cls, d, rfl, J', nb, up, sky, na, os, ag, w⟩ := xx
    have J : Inv X pins σ' H' sI := J'.ofTry ok
    have sky' : Sky B (X.env :: X.outer) a (Zc cls d) X.env.locals s'.heap := by rw [← hs]; exact sky
    show wpAny (model X.prog X.w) X.A (noteFrame (.ref a) X.env) _ _ _
    refine Sky.land Zc.steady hfr hf sky' fun h3 fl3 up3 => ?_
    have J3 : Inv X pins σ' H' { s' with heap := h3 } := J.landed nb fl3.1 (up.trans up3) os ag
    obtain ⟨oe3, vs3, he3, hz3, hd3⟩ := fl3.there
    have notFr : ∀ {h : Heap} {o : Obj} {vs : Array Value}, h.FunFrames B (X.env :: X.outer) → h.get? a = some o → o.data = .fields vs → a ∉ frs (X.env :: X.outer) := fun {h o vs} ff e dd hm => by
      obtain ⟨_, o', e', hnf⟩ := ff.mem hm
      rw [e] at e'; cases e'
      exact hnf _ dd
    have nfr := notFr fl3.2.2.1 he3 hd3
    have nL : a ≠ X.env.locals := fun z => nfr (List.mem_filterMap.mpr ⟨X.env, List.mem_cons_self, by rw [hf, z]⟩)
    have nF : a ∉ X.fs := fun hm => by
      obtain ⟨e, he, q⟩ := List.mem_filterMap.mp hm
      exact nfr (List.mem_filterMap.mpr ⟨e, List.mem_cons_of_mem _ he, q⟩)
    have S3 := J3.suite he3 hd3 na nL nF
    have new := Inv.newIn J hx0 (a := a) (by
      cases e : sI.heap.get? a with
      | none => rfl
      | some o =>
        have := nb a o e (by rw [hs]; exact nfr)
        rw [fl3.2.1] at this
        cases this)
    have go : ∀ {hds' : List ExceptHandler} {l' : List (Value × (Addr → Value → Option Addr → TS))}, HdsAs X n hds' l' → wKeepAs X.K i Wout D l' cls d σ' H' →
        wpAny (model X.prog X.w) X.A (handleBy (.ref a) X.env hds') (SP X pins D) X.xe { s' with heap := h3 } := by
      intro hds' l' hk
      induction hk with
      | nil =>
        intro w
        refine wpAny_handleBy_nil ?_
        obtain ⟨k1, k2, k3, oe, vs, T, oT, ts', he, hz, hd, h1, hr⟩ := id fl3
        unfold PySem.passOn
        refine wpAny_bind (wpAny_field he hd h1 ?_)
        rw [if_neg (show ¬ ((Value.ref T == Value.none) = true) from by simp)]
        have fin : wpAny (model X.prog X.w) X.A (setFlight (.ref a) X.env.frame) (fun _ s4 => wpAny (model X.prog X.w) X.A (throw (.ref a) : Sem Flow) (SP X pins D) X.xe s4) X.xe { s' with heap := h3 } := by
          rw [hf]
          refine HandSPX.setFlight_upZ fl3 fun h4 hh4 up4 => wpAny_throw (tk _ _ ?_)
          exact ⟨a, B, sI, pins, σ', H', cls, d, rfl, J, nb, (up.trans up3).trans up4, .inr (.inr (by rw [hs]; exact hh4)), na, os, ag, w⟩
        first
          | exact wpAny_bind (wpAny_pure (wpAny_bind fin))
          | exact wpAny_bind fin
      | @cons x c ts b₀ suite np pos' hds2 l2 hc hsu r ih =>
        intro w
        obtain ⟨b, hb1, hyes, hno⟩ := w
        refine wpAny_handleBy_cons (codeAny_handlers_test ?_) (by intro q; cases q)
        have LT : PySem.W.Looks (model X.prog X.w) h3 (typeOf (.ref a)) cls := fun A Q E s k q => wpAny_typeOf_ref (k _ _ he3) (by rw [hz3.1]; exact q)
        have LM := PySem.W.exm_one (M := model X.prog X.w) (J3.kIn) LT hb1
        have test : ∀ {Q : Value → Shared → Prop} {E : Value → Shared → Prop}, Q c { s' with heap := h3 } → wpAny (model X.prog X.w) (X.A.mark (some (.ref a))) (eval (.Name x np) X.env) Q E { s' with heap := h3 } := fun {Q E} q => by
          obtain ⟨hg, hdbg, hm | ⟨hm, hv, hnn⟩⟩ := hc
          · exact ld_glob (X := X.suite a ((a, oe3) :: (X.pn ++ pins))) S3 hg hm q hdbg
          · exact ld_blt (X := X.suite a ((a, oe3) :: (X.pn ++ pins))) S3 hg hm hv q hnn hdbg
        refine test (LM.here ?_)
        cases b with
        | true =>
          refine codeAny_handlers_suite_as ?_
          refine HandSPX.lands_againZ fl3 fun h4 fl4 up4 => ?_
          have J4 : Inv X pins σ' H' { s' with heap := h4 } := J.landed nb fl4.1 ((up.trans up3).trans up4) os ag
          obtain ⟨oe4, vs4, he4, hz4, hd4⟩ := fl4.there
          have S4 := J4.suite he4 hd4 na nL nF
          refine store_ok (X := X.suite a ((a, oe4) :: (X.pn ++ pins))) (v := .ref a) S4 hN hi hloc rfl (fun s5 S5 => ?_) (.inr hln)
          refine wpAny_mono ((hsu a oe4 cls d (X.pn ++ pins) hz4 ⟨_, hd4⟩).run [] s5 _ H' _ S5 (hyes rfl a na)) (fun f s6 hsp => ?_) (fun _ _ z => False.elim z)
          have end_ : ∀ {σ6 : L2.St} {H6 : Hp} {Q : Shared → Prop}, Inv (X.suite a ((a, oe4) :: (X.pn ++ pins))) [] σ6 H6 s6 → (∀ s7, Inv X pins (σ6.set i none) H6 s7 → Q s7) →
              wpAny (model X.prog X.w) X.A (do bindName X.env n .none; unbindBehindTheSuite X.env n pos') (fun _ s7 => Q s7) X.xe s6 := fun {σ6 H6 Q} S6 hq => gone_ok (S6.unsuite ok) hN hi hln hq
          cases f with
          | next =>
            obtain ⟨σ6, H6, S6, q6⟩ := hsp
            obtain ⟨ha6, na6, _, _, _⟩ := S6.pin (a, oe4) (List.mem_append.mpr (.inl List.mem_cons_self))
            exact gone_ok (Inv.track (S6.unsuite ok) ha6 hz4 hd4 na6 new.1 new.2.1 new.2.2.1 new.2.2.2) hN hi hln fun s7 J7 => ⟨_, _, J7, q6⟩
          | brk =>
            obtain ⟨σ6, H6, S6, q6⟩ := hsp
            exact end_ S6 fun s7 J7 => ⟨_, _, J7, q6⟩
          | cont =>
            obtain ⟨σ6, H6, S6, q6⟩ := hsp
            exact end_ S6 fun s7 J7 => ⟨_, _, J7, q6⟩
          | ret u =>
            obtain ⟨v6, σ6, H6, S6, r6, q6⟩ := hsp
            exact end_ S6 fun s7 J7 => ⟨_, _, _, J7, r6, q6⟩
        | false =>
          show wpAny _ X.A (handleBy (.ref a) X.env hds2) _ _ _
          exact ih (hno rfl)
    exact go hh w
  · cases f with
    | next =>
      obtain ⟨σ', H', J', q⟩ := hsp
      exact wpAny_execs_nil ⟨σ', H', J'.ofTry ok, q⟩
    | brk =>
      obtain ⟨σ', H', J', q⟩ := hsp
      exact ⟨σ', H', J'.ofTry ok, q⟩
    | cont =>
      obtain ⟨σ', H', J', q⟩ := hsp
      exact ⟨σ', H', J'.ofTry ok, q⟩
    | ret u =>
      obtain ⟨v, σ', H', J', r, q⟩ := hsp
      exact ⟨v, σ', H', J'.ofTry ok, r, q⟩
end
/-! ### isinstance of it, its value -/
/-- what isinstance asks of the class of an error -/
structure ExcI (K : PySem.W.Frag) (D : Addr) : Prop where
  xf : XfC K D
  ha : PySem.W.findIn K (.ref D) "__class__" = some (some (.builtin "object.__class__"))
  hn : PySem.W.specialIn K (.builtin "object.__class__") "__get__" = some (some (.builtin "getset_descriptor.__get__"))
  ht : PySem.W.takesIn K (.builtin "object.__class__") = some true
  hm : PySem.W.mroIn K D (.type "object") = some true
/-- its class by name, the error with a dict of its own -/
theorem cls_named {prog : Program} {w : World} {A : Around} {F : Value → Shared → Prop} {st : Shared} {K : PySem.W.Frag} {a C : Addr} {oe od : Obj} {G : Option Value → Shared → Prop} (c : ExcI K C) (hK : K.In st.heap) (J : PySem.W.InstAt st.heap a oe C (some od))
    (g : G (some (.ref C)) { st with toks := st.toks + 1 }) : wpAny (model prog w) A (getAttr? (.ref a) "__class__") G F st := by
  have found : PySem.W.findObj K C (some od) "__class__" = some (.bind (.builtin "getset_descriptor.__get__") (.builtin "object.__class__")) := by
    refine PySem.W.findObj_data ?_ c.ha c.hn c.ht
    obtain ⟨kd, hk, _⟩ := PySem.W.any_some c.xf.hdC
    rw [hk]
    rfl
  obtain ⟨hh, gs, dr, tk, o5⟩ := st
  have isC := J.type (M := model prog w)
  have isGa := PySem.W.looks_findIn (M := model prog w) hK c.xf.ga
  have isGg := PySem.W.looks_findIn (M := model prog w) hK c.xf.gg
  have isIt := PySem.W.looks_find (M := model prog w) hK J found
  have isSub : PySem.W.Looks (model prog w) hh (isInstance (.ref a) (.type "BaseException")) true := isC.andThen (PySem.W.looks_subIn hK c.xf.exC)
  have n1 : (Value.builtin "BaseException.__getattribute__" == Value.builtin "object.__getattribute__") = false := by decide +kernel
  have n2 : (onTheHeap (Value.ref C) && Value.builtin "BaseException.__getattribute__" == Value.builtin "object.__getattribute__") = false := by rw [n1]; exact Bool.and_false _
  have n3 : (false && onTheHeap (Value.builtin "BaseException.__getattribute__")) = false := Bool.false_and _
  unfold getAttr? getAttrBy? getAttrBy
  refine wpAny_bind (wpAny_mkText (wpAny_bind (wpAny_attempt (wpAny_holding (wpAny_bind (isC.at (wpAny_bind (isGa.at ?_))))))))
  change wpAny _ _ (if (onTheHeap (Value.ref C) && Value.builtin "BaseException.__getattribute__" == Value.builtin "object.__getattribute__") = true then _ else _) _ _ _
  rw [n2]
  rw [if_neg Bool.false_ne_true]
  unfold getAttrByItsOwn hookBefore
  refine wpAny_bind ?_
  have n4 : onTheHeap (Value.ref C) = true := by rfl
  rw [if_pos n4]
  refine isGg.at (wpAny_bind (wpAny_attempt (wpAny_holding ?_)))
  unfold callGetattribute
  rw [n3]
  rw [if_neg Bool.false_ne_true]
  unfold boundAndCalled
  rw [PySem.F.excAttr_ValueError.ga.bind (.ref a)]
  refine wpAny_bind (wpAny_pure ?_)
  change wpAny _ _ (call (.builtin "BaseException.__getattribute__") [.ref a, .str "__class__" tk]) _ _ _
  refine wpAny_call (codeAny_call_builtin PySem.F.excAttr_ValueError.ga.plain PySem.F.entry_bexc_ga ?_)
  refine @PySem.W.check_slot (model prog w) _ _ ⟨hh, gs, dr, tk + 1, o5⟩ "BaseException.__getattribute__" "BaseException" "__getattribute__" (.ref a) [.str "__class__" tk] [] _ (by decide +kernel) (by decide +kernel) isSub (PySem.F.args_bexc_ga _ _) ?_
  unfold Builtin.«object.__getattribute__»
  refine wpAny_bind (wpAny_of_eq (a := ((Value.ref a : Value), [Value.str "__class__" tk])) (by first | rfl | (simp only [slotArgs]; rfl)) (wpAny_bind (wpAny_pure (wpAny_bind (isC.at (wpAny_bind (isIt.at ?_)))))))
  change wpAny _ _ (holding [Value.builtin "object.__class__"] (call (.builtin "getset_descriptor.__get__") [.builtin "object.__class__", .ref a, .ref C]) >>= ret) _ _ _
  refine wpAny_bind (wpAny_holding (wpAny_call (PySem.W.class_get (s := ⟨hh, gs, dr, tk + 1, o5⟩) (ox := oe) (od := some od) hK J c.hm (wpAny_pure ?_))))
  change wpAny _ _ (handedOut (.ref C)) _ _ _
  rw [PySem.W.handedOut_of (v := .ref C) rfl]
  first
    | exact wpAny_pure g
    | exact wpAny_pure (wpAny_pure g)
    | exact wpAny_pure (wpAny_bind (wpAny_pure (wpAny_pure g)))
/-- the error is an object of its class, its dict there -/
theorem kit_err {K : PySem.W.Frag} {a C : Addr} {oe od : Obj} (c : ExcI K C) : PySem.W.KitX K (.ref a) (.ref C) (fun h => PySem.W.InstAt h a oe C (some od)) where
  ty := fun _ _ _ J => J.type
  it := fun _ h hK _ => by
    obtain ⟨kd, hk, _⟩ := PySem.W.any_some c.xf.hdC
    unfold PySem.W.clsIn at hk
    split at hk
    · rename_i e1 e2 e3 e4 there
      intro B R' F' st keep goal
      unfold isType loadHead
      exact wpAny_bind (wpAny_loadPart (keep _ _ (hK _ _ there)) (wpAny_pure goal))
    · cases hk
  ne := fun h t dd is m sl hK ht => by
    obtain ⟨kd, hk, _⟩ := PySem.W.any_some c.xf.hdC
    cases q : (Value.ref C == Value.ref t) with
    | false => rfl
    | true =>
      obtain rfl : C = t := Value.ref.inj (beq_iff_eq.mp q)
      unfold PySem.W.clsIn at hk
      split at hk
      · rename_i e1 e2 e3 e4 there
        have z := (hK _ _ there).symm.trans ht
        cases z
      · cases hk
  ca := fun hK J g => cls_named c hK J g
/-- isinstance(x, c): x a kept error, or any other thing as before -/
def rIsiE (K : PySem.W.Frag) : List V → Hp → VK → Prop := fun xs H Q => rIsi K xs H Q ∨ ∃ (a C dd : Addr) (fs : List (Str × V)) (c : V) (u : Value) (b : Bool), xs = [.ref a, c] ∧ H a = some (ExK (.ref C) (some dd) a) ∧ H dd = some (.xd fs) ∧ ExcI K C ∧ ClsV c u ∧ PySem.W.kitOne K (.ref C) u = some b ∧ Q (.bl b) H
section
variable {X : Cx}
theorem inst_kept {pins : List (Addr × Obj)} {σ : L2.St} {H : Hp} {s : Shared} {a C dd : Addr} {fs : List (Str × V)} (I : Inv X pins σ H s) (ha : H a = some (ExK (.ref C) (some dd) a)) (hd : H dd = some (.xd fs)) :
    ∃ (oe od : Obj) (mA : Str → Option Value), PySem.W.InstAt s.heap a oe C (some od) ∧ s.heap.get? dd = some od ∧ (∀ n, PySem.W.lookIn n od = some (mA n)) ∧ ∀ f, RelO (fs.lookup f) (mA f) := by
  obtain ⟨⟨oe, vs, he, hz, hv⟩, _⟩ := I.hok a _ ha
  obtain ⟨mA, hns, hr⟩ := (show ObjOk X.prog X.w H s.heap dd (.xd fs) from I.hok dd _ hd)
  obtain ⟨od, ho, hl⟩ := lookIn_ns hns
  exact ⟨oe, od, mA, ⟨he, hz.1, by unfold PySem.W.notCls; rw [hv] <;> rfl, by rw [hz.2]; exact ho⟩, ho, hl, hr⟩
theorem call_isiE : CallR X (.builtin "isinstance") (rIsiE X.K) := by
  intro pins s σ H xs us Q I r h
  rcases h with h | ⟨a, C, dd, fs, c, u, b, rfl, ha, hd, hc, hu, hk, q⟩
  · exact call_isi pins s σ H xs us Q I r h
  · obtain ⟨oe, od, mA, J, _⟩ := inst_kept I ha hd
    obtain ⟨u1, u2, rfl, r1, r2⟩ := r.two
    obtain rfl : u1 = Value.ref a := r1
    obtain rfl := hu.eq r2
    exact PySem.W.kia_one (kit_err hc) I.kIn J hk (fun z => nomatch z) fun tk => ⟨.bl b, H, I.tok tk, rfl, q⟩
theorem k_isiE (K : PySem.W.Frag) (h : X.K = K) : CallR X (.builtin "isinstance") (rIsiE K) := by subst h; exact call_isiE
/-- err.f of a kept error -/
def tXfK (K : PySem.W.Frag) (f : Str) (te : TE) : TE := fun σ H Q => te σ H fun x H1 => ∃ (a C dd : Addr) (fs : List (Str × V)) (v : V), x = .ref a ∧ H1 a = some (ExK (.ref C) (some dd) a) ∧ H1 dd = some (.xd fs) ∧ XfC K C ∧ PySem.W.findIn K (.ref C) f = some none ∧ fs.lookup f = some v ∧ Q v H1
theorem pe_xfK {e : Expr} {te : TE} {pos : Pos} {n : Str} (he : PE X e te) (hb : attributeBase e n X.env (eval e X.env) = eval e X.env := by rfl) : PE X (.Attribute e n pos) (tXfK X.K n te) := by
  refine ⟨fun pins s σ H Q I h => ?_⟩
  refine attr_of hb (thn (he.run pins s σ H _ I h) fun u s1 hh => ?_)
  obtain ⟨x, H1, I1, rx, a, C, dd, fs, v, ex, ha, hd, T, hno, l, q⟩ := hh
  subst ex
  obtain rfl : u = Value.ref a := rx
  obtain ⟨oe, od, mA, J, ho, hl, hr⟩ := inst_kept I1 ha hd
  obtain ⟨u, hu, ru⟩ := RelO.some_of (v := v) (o := mA n) (by rw [← l]; exact hr n)
  exact HandSPX.exc_get I1.kIn J T.ga T.gg T.exC (PySem.W.findObj_own T.hdC hno rfl (by rw [hl, hu])) (handed_of ru) ⟨v, H1, I1.tok _, ru, q⟩
end
end My

namespace My
/-! ### rows by rules, modulo a number: a rule that leads another one -/
/-- a sum of the first n -/
def sumN : Nat → (Nat → Int) → Int
  | 0, _ => 0
  | n + 1, f => sumN n f + f n
theorem sumN_congr {n : Nat} {f g : Nat → Int} (h : ∀ i, i < n → f i = g i) : sumN n f = sumN n g := by
  induction n with
  | zero => rfl
  | succ n ih => rw [sumN, sumN, ih fun i hi => h i (by omega), h n (Nat.lt_succ_self n)]
theorem sumN_zero (n : Nat) : sumN n (fun _ => 0) = 0 := by
  induction n with
  | zero => rfl
  | succ n ih => rw [sumN, ih]; rfl
theorem sumN_none {n : Nat} {f : Nat → Int} (h : ∀ i, i < n → f i = 0) : sumN n f = 0 := (sumN_congr h).trans (sumN_zero n)
theorem sumN_add (n : Nat) (f g : Nat → Int) : sumN n (fun i => f i + g i) = sumN n f + sumN n g := by
  induction n with
  | zero => rfl
  | succ n ih => rw [sumN, sumN, sumN, ih]; omega
theorem sumN_mul (n : Nat) (c : Int) (f : Nat → Int) : sumN n (fun i => c * f i) = c * sumN n f := by
  induction n with
  | zero => simp [sumN]
  | succ n ih => rw [sumN, sumN, ih, Int.mul_add]
theorem sumN_front (n : Nat) (f : Nat → Int) : sumN (n + 1) f = f 0 + sumN n fun i => f (i + 1) := by
  induction n with
  | zero => simp [sumN]
  | succ n ih => rw [sumN, ih, sumN]; omega
theorem sumN_rev (n : Nat) (f : Nat → Int) : sumN n (fun i => f (n - 1 - i)) = sumN n f := by
  induction n generalizing f with
  | zero => rfl
  | succ n ih =>
    rw [sumN_front, sumN]
    have : (sumN n fun i => f (n + 1 - 1 - (i + 1))) = sumN n f := by
      rw [← ih f]
      refine sumN_congr fun i hi => ?_
      congr 1
      omega
    rw [this]
    show f n + _ = _
    omega
theorem sumN_cut {n k : Nat} (h : k ≤ n) {f : Nat → Int} (z : ∀ i, k ≤ i → i < n → f i = 0) : sumN n f = sumN k f := by
  induction n with
  | zero => obtain rfl : k = 0 := by omega
            rfl
  | succ n ih =>
    by_cases e : k = n + 1
    · rw [e]
    · rw [sumN, z n (by omega) (Nat.lt_succ_self n), ih (by omega) fun i h1 h2 => z i h1 (by omega)]
      omega
theorem sumN_swap (n m : Nat) (f : Nat → Nat → Int) : sumN n (fun i => sumN m (f i)) = sumN m fun j => sumN n fun i => f i j := by
  induction n with
  | zero => simp only [sumN]; exact (sumN_zero m).symm
  | succ n ih =>
    rw [sumN, ih, ← sumN_add]
    rfl
theorem sumN_dvd {N : Int} {n : Nat} {f : Nat → Int} (h : ∀ i, i < n → N ∣ f i) : N ∣ sumN n f := by
  induction n with
  | zero => exact Int.dvd_zero N
  | succ n ih => exact Int.dvd_add (ih fun i hi => h i (by omega)) (h n (Nat.lt_succ_self n))
theorem sumN_only {n k : Nat} (hk : k < n) {f : Nat → Int} (z : ∀ i, i < n → i ≠ k → f i = 0) : sumN n f = f k := by
  induction n with
  | zero => omega
  | succ n ih =>
    rw [sumN]
    by_cases e : k = n
    · subst e
      rw [sumN_none fun i hi => z i (by omega) (by omega)]
      omega
    · rw [ih (by omega) fun i hi ne => z i (by omega) ne, z n (Nat.lt_succ_self n) (fun q => e q.symm)]
      omega
section
variable (N : Int) (w : List Int)
/-- the row follows the rule w -/
def Fol (r : Nat → Int) : Prop := ∀ i, N ∣ r (i + w.length) - sumN w.length fun b => w.getD b 0 * r (i + w.length - 1 - b)
/-- a power led down: k weights done -/
def updW (f : Nat → Int) (top k : Nat) : Nat → Int := fun p => if p < top ∧ top - 1 - p < k then (f p + f top * w.getD (top - 1 - p) 0) % N else f p
/-- powers from the t-th on led down -/
def ledN (f : Nat → Int) (L : Nat) : Nat → Nat → Int
  | 0 => f
  | t + 1 => updW N w (ledN f L t) (L - 1 - t) w.length
/-- what is led: the rule q as powers -/
def iniP (q : List Int) : Nat → Int := fun p => q.getD p 0 % N
/-- how many powers there are at first -/
def lenP (q : List Int) : Nat := max q.length w.length
def redP (q : List Int) : Nat → Int := ledN N w (iniP N q) (lenP w q) (lenP w q - w.length)
variable {N w}
theorem upd_same_sum (hN : 0 < N) {f r : Nat → Int} (hr : Fol N w r) {top : Nat} (ht : w.length ≤ top) (i : Nat) : N ∣ sumN top (fun p => updW N w f top w.length p * r (i + p)) - sumN (top + 1) fun p => f p * r (i + p) := by
  rw [sumN]
  have h1 : N ∣ sumN top (fun p => updW N w f top w.length p * r (i + p)) - sumN top fun p => (f p + if top - 1 - p < w.length then f top * w.getD (top - 1 - p) 0 else 0) * r (i + p) := by
    have e : sumN top (fun p => updW N w f top w.length p * r (i + p)) - sumN top (fun p => (f p + if top - 1 - p < w.length then f top * w.getD (top - 1 - p) 0 else 0) * r (i + p)) = sumN top fun p => (updW N w f top w.length p - (f p + if top - 1 - p < w.length then f top * w.getD (top - 1 - p) 0 else 0)) * r (i + p) := by
      rw [Int.sub_eq_add_neg, ← Int.neg_one_mul, ← sumN_mul, ← sumN_add]
      refine sumN_congr fun p _ => ?_
      rw [Int.neg_one_mul, ← Int.sub_eq_add_neg, Int.sub_mul]
    rw [e]
    refine sumN_dvd fun p hp => ?_
    refine Int.dvd_mul_of_dvd_left ?_
    unfold updW
    by_cases c : top - 1 - p < w.length
    · rw [if_pos ⟨hp, c⟩, if_pos c]
      have := Int.dvd_self_sub_emod (x := f p + f top * w.getD (top - 1 - p) 0) (m := N)
      rw [← Int.neg_sub]
      exact Int.dvd_neg.mpr this
    · rw [if_neg fun z => c z.2, if_neg c, Int.add_zero, Int.sub_self]
      exact Int.dvd_zero N
  have h2 : sumN top (fun p => (f p + if top - 1 - p < w.length then f top * w.getD (top - 1 - p) 0 else 0) * r (i + p)) = sumN top (fun p => f p * r (i + p)) + f top * sumN w.length fun b => w.getD b 0 * r (i + top - 1 - b) := by
    have e1 : (fun p => (f p + if top - 1 - p < w.length then f top * w.getD (top - 1 - p) 0 else 0) * r (i + p)) = fun p => f p * r (i + p) + (if top - 1 - p < w.length then f top * w.getD (top - 1 - p) 0 else 0) * r (i + p) := by
      funext p
      rw [Int.add_mul]
    rw [e1, sumN_add]
    congr 1
    rw [← sumN_mul]
    have e2 : sumN top (fun p => (if top - 1 - p < w.length then f top * w.getD (top - 1 - p) 0 else 0) * r (i + p)) = sumN top fun p => (fun b => (if b < w.length then f top * w.getD b 0 else 0) * r (i + top - 1 - b)) (top - 1 - p) := by
      refine sumN_congr fun p hp => ?_
      dsimp only
      rw [show i + top - 1 - (top - 1 - p) = i + p by omega]
    refine e2.trans ((sumN_rev top fun b => (if b < w.length then f top * w.getD b 0 else 0) * r (i + top - 1 - b)).trans ?_)
    rw [sumN_cut ht fun b h1 h2 => by rw [if_neg (by omega), Int.zero_mul]]
    refine sumN_congr fun b hb => ?_
    rw [if_pos hb, Int.mul_assoc]
  have h3 : N ∣ f top * sumN w.length (fun b => w.getD b 0 * r (i + top - 1 - b)) - f top * r (i + top) := by
    rw [← Int.mul_sub]
    refine Int.dvd_mul_of_dvd_right ?_
    have := hr (i + top - w.length)
    rw [show i + top - w.length + w.length = i + top by omega] at this
    rw [← Int.neg_sub]
    exact Int.dvd_neg.mpr this
  rw [h2] at h1
  have h4 := Int.dvd_add h1 h3
  have e : ∀ a b c d : Int, (a - (b + c)) + (c - d) = a - (b + d) := fun a b c d => by omega
  rw [e] at h4
  exact h4
theorem led_sum (hN : 0 < N) {f r : Nat → Int} (hr : Fol N w r) {L : Nat} (i : Nat) : ∀ t, t + w.length ≤ L → N ∣ sumN (L - t) (fun p => ledN N w f L t p * r (i + p)) - sumN L fun p => f p * r (i + p)
  | 0, _ => by rw [Nat.sub_zero]; exact ⟨0, by rw [Int.mul_zero]; exact Int.sub_self _⟩
  | t + 1, h => by
    have ih := led_sum hN (f := f) hr (L := L) i t (by omega)
    have h1 := upd_same_sum hN (f := ledN N w f L t) hr (top := L - 1 - t) (by omega) i
    rw [show L - 1 - t + 1 = L - t by omega] at h1
    rw [show L - (t + 1) = L - 1 - t by omega]
    have := Int.dvd_add h1 ih
    rw [show ∀ a b c : Int, a - b + (b - c) = a - c from fun a b c => by omega] at this
    exact this
/-- led powers tell the same of all rows by the rule -/
theorem red_sum (hN : 0 < N) {r : Nat → Int} (hr : Fol N w r) (q : List Int) (i : Nat) : N ∣ sumN w.length (fun p => redP N w q p * r (i + p)) - sumN q.length fun p => q.getD p 0 * r (i + p) := by
  have h1 := led_sum hN (f := iniP N q) hr (L := lenP w q) i (lenP w q - w.length) (by unfold lenP; omega)
  rw [show lenP w q - (lenP w q - w.length) = w.length by unfold lenP; omega] at h1
  have h2 : N ∣ sumN (lenP w q) (fun p => iniP N q p * r (i + p)) - sumN q.length fun p => q.getD p 0 * r (i + p) := by
    rw [← sumN_cut (n := lenP w q) (k := q.length) (f := fun p => q.getD p 0 * r (i + p)) (by unfold lenP; omega) fun p h1 _ => by rw [List.getD_eq_getElem?_getD, List.getElem?_eq_none h1]; exact Int.zero_mul _]
    have e : sumN (lenP w q) (fun p => iniP N q p * r (i + p)) - sumN (lenP w q) (fun p => q.getD p 0 * r (i + p)) = sumN (lenP w q) fun p => (iniP N q p - q.getD p 0) * r (i + p) := by
      rw [Int.sub_eq_add_neg, ← Int.neg_one_mul, ← sumN_mul, ← sumN_add]
      refine sumN_congr fun p _ => ?_
      rw [Int.neg_one_mul, ← Int.sub_eq_add_neg, Int.sub_mul]
    rw [e]
    refine sumN_dvd fun p _ => Int.dvd_mul_of_dvd_left ?_
    unfold iniP
    have := Int.dvd_self_sub_emod (x := q.getD p 0) (m := N)
    rw [← Int.neg_sub]
    exact Int.dvd_neg.mpr this
  have := Int.dvd_add h1 h2
  rw [show ∀ a b c : Int, a - b + (b - c) = a - c from fun a b c => by omega] at this
  exact this
theorem led_range (hN : 0 < N) {f : Nat → Int} (hf : ∀ p, 0 ≤ f p ∧ f p < N) (L : Nat) : ∀ t p, 0 ≤ ledN N w f L t p ∧ ledN N w f L t p < N
  | 0, p => hf p
  | t + 1, p => by
    rw [ledN]
    unfold updW
    split
    · exact ⟨Int.emod_nonneg _ (by omega), Int.emod_lt_of_pos _ hN⟩
    · exact led_range hN hf L t p
theorem red_range (hN : 0 < N) (q : List Int) (p : Nat) : 0 ≤ redP N w q p ∧ redP N w q p < N := led_range hN (fun p => ⟨Int.emod_nonneg _ (by omega), Int.emod_lt_of_pos _ hN⟩) _ _ _
/-- where all is led to nought, all rows by the rule tell nought -/
theorem red_none (hN : 0 < N) {r : Nat → Int} (hr : Fol N w r) {q : List Int} (hz : ∀ p, p < w.length → redP N w q p = 0) (i : Nat) : N ∣ sumN q.length fun p => q.getD p 0 * r (i + p) := by
  have := red_sum hN hr q i
  rw [sumN_none fun p hp => by rw [hz p hp, Int.zero_mul], Int.zero_sub] at this
  exact Int.dvd_neg.mp this
/-- the last one alone -/
def Alo (m : Nat) (r : Nat → Int) : Prop := (∀ p, p + 1 < m → r p = 0) ∧ (0 < m → r (m - 1) = -1)
/-- otherwise the row from the last one alone tells where it first does not -/
theorem red_some (hN : 0 < N) {r : Nat → Int} (hr : Fol N w r) (ha : Alo w.length r) {q : List Int} {t : Nat} (ht : t < w.length) (hn : redP N w q t ≠ 0) (hz : ∀ p, t < p → p < w.length → redP N w q p = 0) :
    (∀ i, i < w.length - 1 - t → N ∣ sumN q.length fun p => q.getD p 0 * r (i + p)) ∧ ¬ N ∣ sumN q.length fun p => q.getD p 0 * r (w.length - 1 - t + p) := by
  constructor
  · intro i hi
    have := red_sum hN hr q i
    rw [sumN_none fun p hp => ?_, Int.zero_sub] at this
    · exact Int.dvd_neg.mp this
    · by_cases c : t < p
      · rw [hz p c hp, Int.zero_mul]
      · rw [ha.1 _ (by omega), Int.mul_zero]
  · intro hd
    have h1 := red_sum hN hr q (w.length - 1 - t)
    have h2 := Int.dvd_add h1 hd
    rw [show ∀ a b : Int, a - b + b = a from fun a b => by omega, sumN_only (k := t) ht fun p hp ne => ?_] at h2
    · rw [show w.length - 1 - t + t = w.length - 1 by omega, ha.2 (by omega), Int.mul_neg_one] at h2
      have h3 := Int.dvd_neg.mp h2
      obtain ⟨r1, r2⟩ := red_range (w := w) hN q t
      have := Int.le_of_dvd (by omega) h3
      omega
    · by_cases c : t < p
      · rw [hz p c hp, Int.zero_mul]
      · rw [ha.1 _ (by omega), Int.mul_zero]
end
/-- the rule as powers -/
def asP (u : List Int) : List Int := u.reverse.map (fun x => -x) ++ [1]
theorem asP_len (u : List Int) : (asP u).length = u.length + 1 := by unfold asP; rw [List.length_append, List.length_map, List.length_reverse]; rfl
/-- what the powers tell: the next one less the sum -/
theorem asP_sum (u : List Int) (r : Nat → Int) (i : Nat) : (sumN (asP u).length fun p => (asP u).getD p 0 * r (i + p)) = r (i + u.length) - sumN u.length fun b => u.getD b 0 * r (i + u.length - 1 - b) := by
  rw [asP_len, sumN]
  have e1 : (asP u).getD u.length 0 = 1 := by
    unfold asP
    rw [List.getD_eq_getElem?_getD, List.getElem?_append_right (by rw [List.length_map, List.length_reverse]; exact Nat.le_refl _), List.length_map, List.length_reverse, Nat.sub_self]
    rfl
  have e2 : (sumN u.length fun p => (asP u).getD p 0 * r (i + p)) = - sumN u.length fun b => u.getD b 0 * r (i + u.length - 1 - b) := by
    rw [← sumN_rev u.length fun b => u.getD b 0 * r (i + u.length - 1 - b), ← Int.neg_one_mul, ← sumN_mul]
    refine sumN_congr fun p hp => ?_
    have e3 : (asP u).getD p 0 = -(u.getD (u.length - 1 - p) 0) := by
      unfold asP
      rw [List.getD_eq_getElem?_getD, List.getElem?_append_left (by rw [List.length_map, List.length_reverse]; exact hp), List.getElem?_map, List.getElem?_reverse hp, List.getD_eq_getElem?_getD, List.getElem?_eq_getElem (by omega)]
      rfl
    rw [e3, show i + u.length - 1 - (u.length - 1 - p) = i + p by omega, Int.neg_mul, Int.neg_one_mul]
  rw [e1, e2, Int.one_mul]
  omega
theorem fol_asP {N : Int} {w : List Int} {r : Nat → Int} : Fol N w r ↔ ∀ i, N ∣ sumN (asP w).length fun p => (asP w).getD p 0 * r (i + p) := by
  unfold Fol
  constructor
  · intro h i; rw [asP_sum]; exact h i
  · intro h i; have := h i; rwa [asP_sum] at this
end My

namespace My
open PySem PySem.Spec PyProof.Rows L2
theorem nil_binds {K : PySem.W.Frag} {fd : FuncData} {ps : List Str} (h : ∃ ds, Vals [] ds ∧ Binds K fd ps ds) : Binds K fd ps [] := by
  obtain ⟨ds, v, b⟩ := h
  cases v
  exact b
def top (i : Nat) : Stmt := PySem.Challenge.pw_wholesound_k21_rows_alike_for_ever.main.body.getD i (.Pass ⟨0, 0, 0, 0⟩)
abbrev s_is_whole : Stmt := top 8
abbrev N_is_whole : List Str := ["value"]
theorem sc_is_whole : FnScope N_is_whole ["value"] (defScope s_is_whole) := ⟨rfl, rfl, rfl, by decide +kernel, rfl, by decide +kernel, by decide +kernel⟩
abbrev s_is_between : Stmt := top 9
abbrev N_is_between : List Str := ["value", "low", "high"]
theorem sc_is_between : FnScope N_is_between ["value", "low", "high"] (defScope s_is_between) := ⟨rfl, rfl, rfl, by decide +kernel, rfl, by decide +kernel, by decide +kernel⟩
abbrev s_are_wholes : Stmt := top 10
abbrev N_are_wholes : List Str := ["value", "item"]
theorem sc_are_wholes : FnScope N_are_wholes ["value"] (defScope s_are_wholes) := ⟨rfl, rfl, rfl, by decide +kernel, rfl, by decide +kernel, by decide +kernel⟩
abbrev s_check_depth : Stmt := top 11
abbrev N_check_depth : List Str := ["depth", "most"]
theorem sc_check_depth : FnScope N_check_depth ["depth", "most"] (defScope s_check_depth) := ⟨rfl, rfl, rfl, by decide +kernel, rfl, by decide +kernel, by decide +kernel⟩
abbrev s_check_number : Stmt := top 12
abbrev N_check_number : List Str := ["number", "low", "high"]
theorem sc_check_number : FnScope N_check_number ["number", "low", "high"] (defScope s_check_number) := ⟨rfl, rfl, rfl, by decide +kernel, rfl, by decide +kernel, by decide +kernel⟩
abbrev s_dotted : Stmt := top 14
abbrev N_dotted : List Str := ["one", "other", "number", "factor"]
theorem sc_dotted : FnScope N_dotted ["one", "other"] (defScope s_dotted) := ⟨rfl, rfl, rfl, by decide +kernel, rfl, by decide +kernel, by decide +kernel⟩
abbrev s_reduced : Stmt := top 16
abbrev N_reduced : List Str := ["weights", "powers", "size", "many", "found", "top", "head", "back", "weight", "number"]
theorem sc_reduced : FnScope N_reduced ["weights", "powers", "size"] (defScope s_reduced) := ⟨rfl, rfl, rfl, by decide +kernel, rfl, by decide +kernel, by decide +kernel⟩
abbrev s_multiplied : Stmt := top 17
abbrev N_multiplied : List Str := ["one", "other", "found", "spot", "number", "place", "factor"]
theorem sc_multiplied : FnScope N_multiplied ["one", "other"] (defScope s_multiplied) := ⟨rfl, rfl, rfl, by decide +kernel, rfl, by decide +kernel, by decide +kernel⟩
abbrev s_moved_by : Stmt := top 18
abbrev N_moved_by : List Str := ["weights", "number", "size", "found", "base"]
theorem sc_moved_by : FnScope N_moved_by ["weights", "number", "size"] (defScope s_moved_by) := ⟨rfl, rfl, rfl, by decide +kernel, rfl, by decide +kernel, by decide +kernel⟩
abbrev s_is_sample : Stmt := top 20
abbrev N_is_sample : List Str := ["value", "depth"]
theorem sc_is_sample : FnScope N_is_sample ["value", "depth"] (defScope s_is_sample) := ⟨rfl, rfl, rfl, by decide +kernel, rfl, by decide +kernel, by decide +kernel⟩
abbrev s_are_samples : Stmt := top 21
abbrev N_are_samples : List Str := ["value", "depth", "item"]
theorem sc_are_samples : FnScope N_are_samples ["value", "depth"] (defScope s_are_samples) := ⟨rfl, rfl, rfl, by decide +kernel, rfl, by decide +kernel, by decide +kernel⟩
abbrev s_wrapped : Stmt := top 22
abbrev N_wrapped : List Str := ["number", "depth", "half"]
theorem sc_wrapped : FnScope N_wrapped ["number", "depth"] (defScope s_wrapped) := ⟨rfl, rfl, rfl, by decide +kernel, rfl, by decide +kernel, by decide +kernel⟩
abbrev s_check_rule : Stmt := top 27
abbrev N_check_rule : List Str := ["weights", "weight"]
theorem sc_check_rule : FnScope N_check_rule ["weights"] (defScope s_check_rule) := ⟨rfl, rfl, rfl, by decide +kernel, rfl, by decide +kernel, by decide +kernel⟩
abbrev s_check_firsts : Stmt := top 28
abbrev N_check_firsts : List Str := ["depth", "weights", "firsts"]
theorem sc_check_firsts : FnScope N_check_firsts ["depth", "weights", "firsts"] (defScope s_check_firsts) := ⟨rfl, rfl, rfl, by decide +kernel, rfl, by decide +kernel, by decide +kernel⟩
abbrev s_told_at : Stmt := top 29
abbrev N_told_at : List Str := ["weights", "row", "spot", "back", "weight"]
theorem sc_told_at : FnScope N_told_at ["weights", "row", "spot"] (defScope s_told_at) := ⟨rfl, rfl, rfl, by decide +kernel, rfl, by decide +kernel, by decide +kernel⟩
abbrev s_gone_on : Stmt := top 30
abbrev N_gone_on : List Str := ["depth", "weights", "firsts", "many", "row"]
theorem sc_gone_on : FnScope N_gone_on ["depth", "weights", "firsts", "many"] (defScope s_gone_on) := ⟨rfl, rfl, rfl, by decide +kernel, rfl, by decide +kernel, by decide +kernel⟩
abbrev s_state_at : Stmt := top 31
abbrev N_state_at : List Str := ["depth", "weights", "firsts", "number", "later", "many", "found", "powers", "row"]
theorem sc_state_at : FnScope N_state_at ["depth", "weights", "firsts", "number"] (defScope s_state_at) := ⟨rfl, rfl, rfl, by decide +kernel, rfl, by decide +kernel, by decide +kernel⟩
abbrev s_sample_at : Stmt := top 32
abbrev N_sample_at : List Str := ["depth", "weights", "firsts", "number"]
theorem sc_sample_at : FnScope N_sample_at ["depth", "weights", "firsts", "number"] (defScope s_sample_at) := ⟨rfl, rfl, rfl, by decide +kernel, rfl, by decide +kernel, by decide +kernel⟩
abbrev s_both_rows : Stmt := top 33
abbrev N_both_rows : List Str := ["depth", "one", "firsts", "other", "seconds", "many", "size"]
theorem sc_both_rows : FnScope N_both_rows ["depth", "one", "firsts", "other", "seconds", "many"] (defScope s_both_rows) := ⟨rfl, rfl, rfl, by decide +kernel, rfl, by decide +kernel, by decide +kernel⟩
abbrev s_unlike_spots : Stmt := top 34
abbrev N_unlike_spots : List Str := ["one", "other", "spot", "sample"]
theorem sc_unlike_spots : FnScope N_unlike_spots ["one", "other"] (defScope s_unlike_spots) := ⟨rfl, rfl, rfl, by decide +kernel, rfl, by decide +kernel, by decide +kernel⟩
abbrev s_first_parted : Stmt := top 35
abbrev N_first_parted : List Str := ["depth", "one", "firsts", "other", "seconds", "rows"]
theorem sc_first_parted : FnScope N_first_parted ["depth", "one", "firsts", "other", "seconds"] (defScope s_first_parted) := ⟨rfl, rfl, rfl, by decide +kernel, rfl, by decide +kernel, by decide +kernel⟩
abbrev s_alike_from : Stmt := top 36
abbrev N_alike_from : List Str := ["depth", "one", "firsts", "other", "seconds", "rows", "spots", "last"]
theorem sc_alike_from : FnScope N_alike_from ["depth", "one", "firsts", "other", "seconds"] (defScope s_alike_from) := ⟨rfl, rfl, rfl, by decide +kernel, rfl, by decide +kernel, by decide +kernel⟩
abbrev s_law_hash : Stmt := top 38
abbrev N_law_hash : List Str := ["_law_seed", "_law_index", "_law_mixed"]
theorem sc_law_hash : FnScope N_law_hash ["_law_seed", "_law_index"] (defScope s_law_hash) := ⟨rfl, rfl, rfl, by decide +kernel, rfl, by decide +kernel, by decide +kernel⟩
abbrev s_law_generator : Stmt := top 39
abbrev N_law_generator : List Str := ["_law_script", "_law_index", "_law_seed"]
theorem sc_law_generator : FnScope N_law_generator ["_law_script", "_law_index"] (defScope s_law_generator) := ⟨rfl, rfl, rfl, by decide +kernel, rfl, by decide +kernel, by decide +kernel⟩
abbrev s_law_random : Stmt := top 40
abbrev N_law_random : List Str := ["_law_generator_here", "_law_bound", "_law_drawn", "_law_turn"]
theorem sc_law_random : FnScope N_law_random ["_law_generator_here", "_law_bound"] (defScope s_law_random) := ⟨rfl, rfl, rfl, by decide +kernel, rfl, by decide +kernel, by decide +kernel⟩
abbrev s_law_row : Stmt := top 41
abbrev N_law_row : List Str := ["_law_generator_here", "_law_depth", "_law_many", "_law_turn"]
theorem sc_law_row : FnScope N_law_row ["_law_generator_here", "_law_depth", "_law_many"] (defScope s_law_row) := ⟨rfl, rfl, rfl, by decide +kernel, rfl, by decide +kernel, by decide +kernel⟩
abbrev s_law_sum : Stmt := top 42
abbrev N_law_sum : List Str := ["_law_weights", "_law_row_here", "_law_spot", "_law_back"]
theorem sc_law_sum : FnScope N_law_sum ["_law_weights", "_law_row_here", "_law_spot"] (defScope s_law_sum) := ⟨rfl, rfl, rfl, by decide +kernel, rfl, by decide +kernel, by decide +kernel⟩
abbrev s_law_gone : Stmt := top 43
abbrev N_law_gone : List Str := ["_law_depth", "_law_weights", "_law_firsts", "_law_many", "_law_row_here", "_law_half"]
theorem sc_law_gone : FnScope N_law_gone ["_law_depth", "_law_weights", "_law_firsts", "_law_many"] (defScope s_law_gone) := ⟨rfl, rfl, rfl, by decide +kernel, rfl, by decide +kernel, by decide +kernel⟩
abbrev s_law_product : Stmt := top 44
abbrev N_law_product : List Str := ["_law_one", "_law_other", "_law_found", "_law_spot", "_law_first", "_law_second", "_law_place", "_law_number", "_law_weight"]
theorem sc_law_product : FnScope N_law_product ["_law_one", "_law_other"] (defScope s_law_product) := ⟨rfl, rfl, rfl, by decide +kernel, rfl, by decide +kernel, by decide +kernel⟩
abbrev s_law_small : Stmt := top 45
abbrev N_law_small : List Str := ["_law_generator_here", "_law_many", "_law_turn"]
theorem sc_law_small : FnScope N_law_small ["_law_generator_here", "_law_many"] (defScope s_law_small) := ⟨rfl, rfl, rfl, by decide +kernel, rfl, by decide +kernel, by decide +kernel⟩
abbrev s_law_unlike : Stmt := top 46
abbrev N_law_unlike : List Str := ["_law_depth", "_law_one", "_law_firsts", "_law_other", "_law_seconds", "_law_many", "_law_first", "_law_second", "_law_spot"]
theorem sc_law_unlike : FnScope N_law_unlike ["_law_depth", "_law_one", "_law_firsts", "_law_other", "_law_seconds", "_law_many"] (defScope s_law_unlike) := ⟨rfl, rfl, rfl, by decide +kernel, rfl, by decide +kernel, by decide +kernel⟩
abbrev s_law_pair_good : Stmt := top 47
abbrev N_law_pair_good : List Str := ["_law_generator_here", "_law_depth", "_law_one", "_law_firsts", "_law_other", "_law_seconds", "_law_order", "_law_spots", "_law_given", "_law_told", "_law_far", "_law_here", "_law_turn", "_law_spot"]
theorem sc_law_pair_good : FnScope N_law_pair_good ["_law_generator_here", "_law_depth", "_law_one", "_law_firsts", "_law_other", "_law_seconds"] (defScope s_law_pair_good) := ⟨rfl, rfl, rfl, by decide +kernel, rfl, by decide +kernel, by decide +kernel⟩
abbrev s_law_caught : Stmt := top 48
abbrev N_law_caught : List Str := ["_law_which", "_law_given", "_law_error", "e", "_law_kinds"]
theorem sc_law_caught : FnScope N_law_caught ["_law_which", "_law_given"] (defScope s_law_caught) := ⟨rfl, rfl, rfl, by decide +kernel, rfl, by decide +kernel, by decide +kernel⟩
abbrev s_law_refused : Stmt := top 49
abbrev N_law_refused : List Str := ["_law_which", "_law_bad"]
theorem sc_law_refused : FnScope N_law_refused [] (defScope s_law_refused) := ⟨rfl, rfl, rfl, by decide +kernel, rfl, by decide +kernel, by decide +kernel⟩
abbrev s_law : Stmt := top 50
abbrev N_law : List Str := ["_law_script", "_law_index", "_law_told", "_law_generator_here", "_law_other", "_law_seconds", "_law_even", "_law_rules", "_law_depth", "_law_one", "_law_firsts", "_law_more", "_law_starts", "_law_turn", "_law_weight", "_law_rule"]
theorem sc_law : FnScope N_law ["_law_script"] (defScope s_law) := ⟨rfl, rfl, rfl, by decide +kernel, rfl, by decide +kernel, by decide +kernel⟩
abbrev s_InvalidNumber___init__ : Stmt := inClass (top 2) 0
theorem nsc_InvalidNumber : NdefX.NScope ["self", "value", "__class__"] ["self", "value"] ["__class__"] (defScope s_InvalidNumber___init__) := NdefX.nscope_by (by decide +kernel)
theorem sb_InvalidNumber : Sup.SupBody s_InvalidNumber___init__ := ⟨_, _, _, _, _, _, _, _, _, _, rfl, by decide +kernel, fun env => ⟨_, rfl⟩⟩
abbrev s_InvalidDepth___init__ : Stmt := inClass (top 3) 0
theorem nsc_InvalidDepth : NdefX.NScope ["self", "value", "__class__"] ["self", "value"] ["__class__"] (defScope s_InvalidDepth___init__) := NdefX.nscope_by (by decide +kernel)
theorem sb_InvalidDepth : Sup.SupBody s_InvalidDepth___init__ := ⟨_, _, _, _, _, _, _, _, _, _, rfl, by decide +kernel, fun env => ⟨_, rfl⟩⟩
abbrev s_InvalidRow___init__ : Stmt := inClass (top 4) 0
theorem nsc_InvalidRow : NdefX.NScope ["self", "value", "__class__"] ["self", "value"] ["__class__"] (defScope s_InvalidRow___init__) := NdefX.nscope_by (by decide +kernel)
theorem sb_InvalidRow : Sup.SupBody s_InvalidRow___init__ := ⟨_, _, _, _, _, _, _, _, _, _, rfl, by decide +kernel, fun env => ⟨_, rfl⟩⟩
abbrev s_InvalidWeights___init__ : Stmt := inClass (top 5) 0
theorem nsc_InvalidWeights : NdefX.NScope ["self", "value", "__class__"] ["self", "value"] ["__class__"] (defScope s_InvalidWeights___init__) := NdefX.nscope_by (by decide +kernel)
theorem sb_InvalidWeights : Sup.SupBody s_InvalidWeights___init__ := ⟨_, _, _, _, _, _, _, _, _, _, rfl, by decide +kernel, fun env => ⟨_, rfl⟩⟩
def fileS : Str := PySem.Challenge.pw_wholesound_k21_rows_alike_for_ever.main.file
/-- what the top has left -/
structure Top (K : PySem.W.Frag) (mg : Str → Option Value) where
  f_is_whole : Addr
  fd_is_whole : FuncData
  F_is_whole : FunD K "is_whole" "is_whole" (defArgs s_is_whole) (defBody s_is_whole) (defScope s_is_whole) [] [] f_is_whole fd_is_whole
  b_is_whole : Binds K fd_is_whole ["value"] []
  g_is_whole : mg "is_whole" = some (.ref f_is_whole)
  f_is_between : Addr
  fd_is_between : FuncData
  F_is_between : FunD K "is_between" "is_between" (defArgs s_is_between) (defBody s_is_between) (defScope s_is_between) [] [] f_is_between fd_is_between
  b_is_between : Binds K fd_is_between ["value", "low", "high"] []
  g_is_between : mg "is_between" = some (.ref f_is_between)
  f_are_wholes : Addr
  fd_are_wholes : FuncData
  F_are_wholes : FunD K "are_wholes" "are_wholes" (defArgs s_are_wholes) (defBody s_are_wholes) (defScope s_are_wholes) [] [] f_are_wholes fd_are_wholes
  b_are_wholes : Binds K fd_are_wholes ["value"] []
  g_are_wholes : mg "are_wholes" = some (.ref f_are_wholes)
  f_check_depth : Addr
  fd_check_depth : FuncData
  F_check_depth : FunD K "check_depth" "check_depth" (defArgs s_check_depth) (defBody s_check_depth) (defScope s_check_depth) [.int 24] [] f_check_depth fd_check_depth
  b_check_depth : Binds K fd_check_depth ["depth", "most"] []
  g_check_depth : mg "check_depth" = some (.ref f_check_depth)
  e0_check_depth : List Value
  v0_check_depth : Vals [.int 24] e0_check_depth
  b0_check_depth : Binds K fd_check_depth ["depth", "most"] e0_check_depth
  f_check_number : Addr
  fd_check_number : FuncData
  F_check_number : FunD K "check_number" "check_number" (defArgs s_check_number) (defBody s_check_number) (defScope s_check_number) [] [] f_check_number fd_check_number
  b_check_number : Binds K fd_check_number ["number", "low", "high"] []
  g_check_number : mg "check_number" = some (.ref f_check_number)
  f_dotted : Addr
  fd_dotted : FuncData
  F_dotted : FunD K "dotted" "dotted" (defArgs s_dotted) (defBody s_dotted) (defScope s_dotted) [] [] f_dotted fd_dotted
  b_dotted : Binds K fd_dotted ["one", "other"] []
  g_dotted : mg "dotted" = some (.ref f_dotted)
  f_reduced : Addr
  fd_reduced : FuncData
  F_reduced : FunD K "reduced" "reduced" (defArgs s_reduced) (defBody s_reduced) (defScope s_reduced) [] [] f_reduced fd_reduced
  b_reduced : Binds K fd_reduced ["weights", "powers", "size"] []
  g_reduced : mg "reduced" = some (.ref f_reduced)
  f_multiplied : Addr
  fd_multiplied : FuncData
  F_multiplied : FunD K "multiplied" "multiplied" (defArgs s_multiplied) (defBody s_multiplied) (defScope s_multiplied) [] [] f_multiplied fd_multiplied
  b_multiplied : Binds K fd_multiplied ["one", "other"] []
  g_multiplied : mg "multiplied" = some (.ref f_multiplied)
  f_moved_by : Addr
  fd_moved_by : FuncData
  F_moved_by : FunD K "moved_by" "moved_by" (defArgs s_moved_by) (defBody s_moved_by) (defScope s_moved_by) [] [] f_moved_by fd_moved_by
  b_moved_by : Binds K fd_moved_by ["weights", "number", "size"] []
  g_moved_by : mg "moved_by" = some (.ref f_moved_by)
  f_is_sample : Addr
  fd_is_sample : FuncData
  F_is_sample : FunD K "is_sample" "is_sample" (defArgs s_is_sample) (defBody s_is_sample) (defScope s_is_sample) [] [] f_is_sample fd_is_sample
  b_is_sample : Binds K fd_is_sample ["value", "depth"] []
  g_is_sample : mg "is_sample" = some (.ref f_is_sample)
  f_are_samples : Addr
  fd_are_samples : FuncData
  F_are_samples : FunD K "are_samples" "are_samples" (defArgs s_are_samples) (defBody s_are_samples) (defScope s_are_samples) [] [] f_are_samples fd_are_samples
  b_are_samples : Binds K fd_are_samples ["value", "depth"] []
  g_are_samples : mg "are_samples" = some (.ref f_are_samples)
  f_wrapped : Addr
  fd_wrapped : FuncData
  F_wrapped : FunD K "wrapped" "wrapped" (defArgs s_wrapped) (defBody s_wrapped) (defScope s_wrapped) [] [] f_wrapped fd_wrapped
  b_wrapped : Binds K fd_wrapped ["number", "depth"] []
  g_wrapped : mg "wrapped" = some (.ref f_wrapped)
  f_check_rule : Addr
  fd_check_rule : FuncData
  F_check_rule : FunD K "check_rule" "check_rule" (defArgs s_check_rule) (defBody s_check_rule) (defScope s_check_rule) [] [] f_check_rule fd_check_rule
  b_check_rule : Binds K fd_check_rule ["weights"] []
  g_check_rule : mg "check_rule" = some (.ref f_check_rule)
  f_check_firsts : Addr
  fd_check_firsts : FuncData
  F_check_firsts : FunD K "check_firsts" "check_firsts" (defArgs s_check_firsts) (defBody s_check_firsts) (defScope s_check_firsts) [] [] f_check_firsts fd_check_firsts
  b_check_firsts : Binds K fd_check_firsts ["depth", "weights", "firsts"] []
  g_check_firsts : mg "check_firsts" = some (.ref f_check_firsts)
  f_told_at : Addr
  fd_told_at : FuncData
  F_told_at : FunD K "told_at" "told_at" (defArgs s_told_at) (defBody s_told_at) (defScope s_told_at) [] [] f_told_at fd_told_at
  b_told_at : Binds K fd_told_at ["weights", "row", "spot"] []
  g_told_at : mg "told_at" = some (.ref f_told_at)
  f_gone_on : Addr
  fd_gone_on : FuncData
  F_gone_on : FunD K "gone_on" "gone_on" (defArgs s_gone_on) (defBody s_gone_on) (defScope s_gone_on) [] [] f_gone_on fd_gone_on
  b_gone_on : Binds K fd_gone_on ["depth", "weights", "firsts", "many"] []
  g_gone_on : mg "gone_on" = some (.ref f_gone_on)
  f_state_at : Addr
  fd_state_at : FuncData
  F_state_at : FunD K "state_at" "state_at" (defArgs s_state_at) (defBody s_state_at) (defScope s_state_at) [] [] f_state_at fd_state_at
  b_state_at : Binds K fd_state_at ["depth", "weights", "firsts", "number"] []
  g_state_at : mg "state_at" = some (.ref f_state_at)
  f_sample_at : Addr
  fd_sample_at : FuncData
  F_sample_at : FunD K "sample_at" "sample_at" (defArgs s_sample_at) (defBody s_sample_at) (defScope s_sample_at) [] [] f_sample_at fd_sample_at
  b_sample_at : Binds K fd_sample_at ["depth", "weights", "firsts", "number"] []
  g_sample_at : mg "sample_at" = some (.ref f_sample_at)
  f_both_rows : Addr
  fd_both_rows : FuncData
  F_both_rows : FunD K "both_rows" "both_rows" (defArgs s_both_rows) (defBody s_both_rows) (defScope s_both_rows) [] [] f_both_rows fd_both_rows
  b_both_rows : Binds K fd_both_rows ["depth", "one", "firsts", "other", "seconds", "many"] []
  g_both_rows : mg "both_rows" = some (.ref f_both_rows)
  f_unlike_spots : Addr
  fd_unlike_spots : FuncData
  F_unlike_spots : FunD K "unlike_spots" "unlike_spots" (defArgs s_unlike_spots) (defBody s_unlike_spots) (defScope s_unlike_spots) [] [] f_unlike_spots fd_unlike_spots
  b_unlike_spots : Binds K fd_unlike_spots ["one", "other"] []
  g_unlike_spots : mg "unlike_spots" = some (.ref f_unlike_spots)
  f_first_parted : Addr
  fd_first_parted : FuncData
  F_first_parted : FunD K "first_parted" "first_parted" (defArgs s_first_parted) (defBody s_first_parted) (defScope s_first_parted) [] [] f_first_parted fd_first_parted
  b_first_parted : Binds K fd_first_parted ["depth", "one", "firsts", "other", "seconds"] []
  g_first_parted : mg "first_parted" = some (.ref f_first_parted)
  f_alike_from : Addr
  fd_alike_from : FuncData
  F_alike_from : FunD K "alike_from" "alike_from" (defArgs s_alike_from) (defBody s_alike_from) (defScope s_alike_from) [] [] f_alike_from fd_alike_from
  b_alike_from : Binds K fd_alike_from ["depth", "one", "firsts", "other", "seconds"] []
  g_alike_from : mg "alike_from" = some (.ref f_alike_from)
  f_law_hash : Addr
  fd_law_hash : FuncData
  F_law_hash : FunD K "_law_hash" "_law_hash" (defArgs s_law_hash) (defBody s_law_hash) (defScope s_law_hash) [] [] f_law_hash fd_law_hash
  b_law_hash : Binds K fd_law_hash ["_law_seed", "_law_index"] []
  g_law_hash : mg "_law_hash" = some (.ref f_law_hash)
  f_law_generator : Addr
  fd_law_generator : FuncData
  F_law_generator : FunD K "_law_generator" "_law_generator" (defArgs s_law_generator) (defBody s_law_generator) (defScope s_law_generator) [] [] f_law_generator fd_law_generator
  b_law_generator : Binds K fd_law_generator ["_law_script", "_law_index"] []
  g_law_generator : mg "_law_generator" = some (.ref f_law_generator)
  f_law_random : Addr
  fd_law_random : FuncData
  F_law_random : FunD K "_law_random" "_law_random" (defArgs s_law_random) (defBody s_law_random) (defScope s_law_random) [] [] f_law_random fd_law_random
  b_law_random : Binds K fd_law_random ["_law_generator_here", "_law_bound"] []
  g_law_random : mg "_law_random" = some (.ref f_law_random)
  f_law_row : Addr
  fd_law_row : FuncData
  F_law_row : FunD K "_law_row" "_law_row" (defArgs s_law_row) (defBody s_law_row) (defScope s_law_row) [] [] f_law_row fd_law_row
  b_law_row : Binds K fd_law_row ["_law_generator_here", "_law_depth", "_law_many"] []
  g_law_row : mg "_law_row" = some (.ref f_law_row)
  f_law_sum : Addr
  fd_law_sum : FuncData
  F_law_sum : FunD K "_law_sum" "_law_sum" (defArgs s_law_sum) (defBody s_law_sum) (defScope s_law_sum) [] [] f_law_sum fd_law_sum
  b_law_sum : Binds K fd_law_sum ["_law_weights", "_law_row_here", "_law_spot"] []
  g_law_sum : mg "_law_sum" = some (.ref f_law_sum)
  f_law_gone : Addr
  fd_law_gone : FuncData
  F_law_gone : FunD K "_law_gone" "_law_gone" (defArgs s_law_gone) (defBody s_law_gone) (defScope s_law_gone) [] [] f_law_gone fd_law_gone
  b_law_gone : Binds K fd_law_gone ["_law_depth", "_law_weights", "_law_firsts", "_law_many"] []
  g_law_gone : mg "_law_gone" = some (.ref f_law_gone)
  f_law_product : Addr
  fd_law_product : FuncData
  F_law_product : FunD K "_law_product" "_law_product" (defArgs s_law_product) (defBody s_law_product) (defScope s_law_product) [] [] f_law_product fd_law_product
  b_law_product : Binds K fd_law_product ["_law_one", "_law_other"] []
  g_law_product : mg "_law_product" = some (.ref f_law_product)
  f_law_small : Addr
  fd_law_small : FuncData
  F_law_small : FunD K "_law_small" "_law_small" (defArgs s_law_small) (defBody s_law_small) (defScope s_law_small) [] [] f_law_small fd_law_small
  b_law_small : Binds K fd_law_small ["_law_generator_here", "_law_many"] []
  g_law_small : mg "_law_small" = some (.ref f_law_small)
  f_law_unlike : Addr
  fd_law_unlike : FuncData
  F_law_unlike : FunD K "_law_unlike" "_law_unlike" (defArgs s_law_unlike) (defBody s_law_unlike) (defScope s_law_unlike) [] [] f_law_unlike fd_law_unlike
  b_law_unlike : Binds K fd_law_unlike ["_law_depth", "_law_one", "_law_firsts", "_law_other", "_law_seconds", "_law_many"] []
  g_law_unlike : mg "_law_unlike" = some (.ref f_law_unlike)
  f_law_pair_good : Addr
  fd_law_pair_good : FuncData
  F_law_pair_good : FunD K "_law_pair_good" "_law_pair_good" (defArgs s_law_pair_good) (defBody s_law_pair_good) (defScope s_law_pair_good) [] [] f_law_pair_good fd_law_pair_good
  b_law_pair_good : Binds K fd_law_pair_good ["_law_generator_here", "_law_depth", "_law_one", "_law_firsts", "_law_other", "_law_seconds"] []
  g_law_pair_good : mg "_law_pair_good" = some (.ref f_law_pair_good)
  f_law_caught : Addr
  fd_law_caught : FuncData
  F_law_caught : FunD K "_law_caught" "_law_caught" (defArgs s_law_caught) (defBody s_law_caught) (defScope s_law_caught) [] [] f_law_caught fd_law_caught
  b_law_caught : Binds K fd_law_caught ["_law_which", "_law_given"] []
  g_law_caught : mg "_law_caught" = some (.ref f_law_caught)
  f_law_refused : Addr
  fd_law_refused : FuncData
  F_law_refused : FunD K "_law_refused" "_law_refused" (defArgs s_law_refused) (defBody s_law_refused) (defScope s_law_refused) [] [] f_law_refused fd_law_refused
  b_law_refused : Binds K fd_law_refused [] []
  g_law_refused : mg "_law_refused" = some (.ref f_law_refused)
  f_law : Addr
  fd_law : FuncData
  F_law : FunD K "law" "law" (defArgs s_law) (defBody s_law) (defScope s_law) [] [] f_law fd_law
  b_law : Binds K fd_law ["_law_script"] []
  g_law : mg "law" = some (.ref f_law)
  C_InvalidNumber : Addr
  gc_InvalidNumber : mg "InvalidNumber" = some (.ref C_InvalidNumber)
  fi_InvalidNumber : Addr
  fd_InvalidNumber : FuncData
  er_InvalidNumber : ErrC K fileS "InvalidNumber" s_InvalidNumber___init__ C_InvalidNumber fi_InvalidNumber fd_InvalidNumber
  C_InvalidDepth : Addr
  gc_InvalidDepth : mg "InvalidDepth" = some (.ref C_InvalidDepth)
  fi_InvalidDepth : Addr
  fd_InvalidDepth : FuncData
  er_InvalidDepth : ErrC K fileS "InvalidDepth" s_InvalidDepth___init__ C_InvalidDepth fi_InvalidDepth fd_InvalidDepth
  C_InvalidRow : Addr
  gc_InvalidRow : mg "InvalidRow" = some (.ref C_InvalidRow)
  fi_InvalidRow : Addr
  fd_InvalidRow : FuncData
  er_InvalidRow : ErrC K fileS "InvalidRow" s_InvalidRow___init__ C_InvalidRow fi_InvalidRow fd_InvalidRow
  C_InvalidWeights : Addr
  gc_InvalidWeights : mg "InvalidWeights" = some (.ref C_InvalidWeights)
  fi_InvalidWeights : Addr
  fd_InvalidWeights : FuncData
  er_InvalidWeights : ErrC K fileS "InvalidWeights" s_InvalidWeights___init__ C_InvalidWeights fi_InvalidWeights fd_InvalidWeights
  C_SoundError : Addr
  gc_SoundError : mg "SoundError" = some (.ref C_SoundError)
  em_InvalidNumber_SoundError : PySem.W.exmOne K (.ref C_InvalidNumber) (.ref C_SoundError) = some true
  em_InvalidNumber_InvalidDepth : PySem.W.exmOne K (.ref C_InvalidNumber) (.ref C_InvalidDepth) = some false
  em_InvalidNumber_InvalidWeights : PySem.W.exmOne K (.ref C_InvalidNumber) (.ref C_InvalidWeights) = some false
  em_InvalidNumber_InvalidRow : PySem.W.exmOne K (.ref C_InvalidNumber) (.ref C_InvalidRow) = some false
  em_InvalidDepth_SoundError : PySem.W.exmOne K (.ref C_InvalidDepth) (.ref C_SoundError) = some true
  em_InvalidDepth_InvalidDepth : PySem.W.exmOne K (.ref C_InvalidDepth) (.ref C_InvalidDepth) = some true
  em_InvalidDepth_InvalidWeights : PySem.W.exmOne K (.ref C_InvalidDepth) (.ref C_InvalidWeights) = some false
  em_InvalidDepth_InvalidRow : PySem.W.exmOne K (.ref C_InvalidDepth) (.ref C_InvalidRow) = some false
  em_InvalidRow_SoundError : PySem.W.exmOne K (.ref C_InvalidRow) (.ref C_SoundError) = some true
  em_InvalidRow_InvalidDepth : PySem.W.exmOne K (.ref C_InvalidRow) (.ref C_InvalidDepth) = some false
  em_InvalidRow_InvalidWeights : PySem.W.exmOne K (.ref C_InvalidRow) (.ref C_InvalidWeights) = some false
  em_InvalidRow_InvalidRow : PySem.W.exmOne K (.ref C_InvalidRow) (.ref C_InvalidRow) = some true
  em_InvalidWeights_SoundError : PySem.W.exmOne K (.ref C_InvalidWeights) (.ref C_SoundError) = some true
  em_InvalidWeights_InvalidDepth : PySem.W.exmOne K (.ref C_InvalidWeights) (.ref C_InvalidDepth) = some false
  em_InvalidWeights_InvalidWeights : PySem.W.exmOne K (.ref C_InvalidWeights) (.ref C_InvalidWeights) = some true
  em_InvalidWeights_InvalidRow : PySem.W.exmOne K (.ref C_InvalidWeights) (.ref C_InvalidRow) = some false
  ki_InvalidNumber_SoundError : PySem.W.kitOne K (.ref C_InvalidNumber) (.ref C_SoundError) = some true
  ki_InvalidNumber_InvalidDepth : PySem.W.kitOne K (.ref C_InvalidNumber) (.ref C_InvalidDepth) = some false
  ki_InvalidNumber_InvalidWeights : PySem.W.kitOne K (.ref C_InvalidNumber) (.ref C_InvalidWeights) = some false
  ki_InvalidNumber_InvalidRow : PySem.W.kitOne K (.ref C_InvalidNumber) (.ref C_InvalidRow) = some false
  ki_InvalidDepth_SoundError : PySem.W.kitOne K (.ref C_InvalidDepth) (.ref C_SoundError) = some true
  ki_InvalidDepth_InvalidDepth : PySem.W.kitOne K (.ref C_InvalidDepth) (.ref C_InvalidDepth) = some true
  ki_InvalidDepth_InvalidWeights : PySem.W.kitOne K (.ref C_InvalidDepth) (.ref C_InvalidWeights) = some false
  ki_InvalidDepth_InvalidRow : PySem.W.kitOne K (.ref C_InvalidDepth) (.ref C_InvalidRow) = some false
  ki_InvalidRow_SoundError : PySem.W.kitOne K (.ref C_InvalidRow) (.ref C_SoundError) = some true
  ki_InvalidRow_InvalidDepth : PySem.W.kitOne K (.ref C_InvalidRow) (.ref C_InvalidDepth) = some false
  ki_InvalidRow_InvalidWeights : PySem.W.kitOne K (.ref C_InvalidRow) (.ref C_InvalidWeights) = some false
  ki_InvalidRow_InvalidRow : PySem.W.kitOne K (.ref C_InvalidRow) (.ref C_InvalidRow) = some true
  ki_InvalidWeights_SoundError : PySem.W.kitOne K (.ref C_InvalidWeights) (.ref C_SoundError) = some true
  ki_InvalidWeights_InvalidDepth : PySem.W.kitOne K (.ref C_InvalidWeights) (.ref C_InvalidDepth) = some false
  ki_InvalidWeights_InvalidWeights : PySem.W.kitOne K (.ref C_InvalidWeights) (.ref C_InvalidWeights) = some true
  ki_InvalidWeights_InvalidRow : PySem.W.kitOne K (.ref C_InvalidWeights) (.ref C_InvalidRow) = some false
  kn_InvalidDepth : PySem.W.kitOne K (.type "NoneType") (.ref C_InvalidDepth) = some false
  kn_InvalidWeights : PySem.W.kitOne K (.type "NoneType") (.ref C_InvalidWeights) = some false
  kn_InvalidRow : PySem.W.kitOne K (.type "NoneType") (.ref C_InvalidRow) = some false
  ei_InvalidNumber : ExcI K C_InvalidNumber
  ei_InvalidDepth : ExcI K C_InvalidDepth
  ei_InvalidRow : ExcI K C_InvalidRow
  ei_InvalidWeights : ExcI K C_InvalidWeights
  n_len : mg "len" = none
  n_sum : mg "sum" = none
  n_max : mg "max" = none
  n_int : mg "int" = none
  n_bool : mg "bool" = none
  n_list : mg "list" = none
  n_range : mg "range" = none
  n_isinstance : mg "isinstance" = none
  n_abs : mg "abs" = none
  n_enumerate : mg "enumerate" = none
  n_zip : mg "zip" = none
  n_repr : mg "repr" = none
  n_super : mg "super" = none
  t_MOST_DEPTH : Tok
  m_MOST_DEPTH : mg "MOST_DEPTH" = some (.int 24 t_MOST_DEPTH)
  t_MOST_WEIGHTS : Tok
  m_MOST_WEIGHTS : mg "MOST_WEIGHTS" = some (.int 8 t_MOST_WEIGHTS)
  t_MOST_WEIGHT : Tok
  m_MOST_WEIGHT : mg "MOST_WEIGHT" = some (.int 32768 t_MOST_WEIGHT)
  t_MOST_PLACE : Tok
  m_MOST_PLACE : mg "MOST_PLACE" = some (.int 1000000000000000000 t_MOST_PLACE)
def d_is_whole : He.DefD := ⟨("is_whole", none), "is_whole", "is_whole", defArgs s_is_whole, defBody s_is_whole, defScope s_is_whole, [], []⟩
def d_is_between : He.DefD := ⟨("is_between", none), "is_between", "is_between", defArgs s_is_between, defBody s_is_between, defScope s_is_between, [], []⟩
def d_are_wholes : He.DefD := ⟨("are_wholes", none), "are_wholes", "are_wholes", defArgs s_are_wholes, defBody s_are_wholes, defScope s_are_wholes, [], []⟩
def d_check_depth : He.DefD := ⟨("check_depth", none), "check_depth", "check_depth", defArgs s_check_depth, defBody s_check_depth, defScope s_check_depth, [.int 24], []⟩
def d_check_number : He.DefD := ⟨("check_number", none), "check_number", "check_number", defArgs s_check_number, defBody s_check_number, defScope s_check_number, [], []⟩
def d_dotted : He.DefD := ⟨("dotted", none), "dotted", "dotted", defArgs s_dotted, defBody s_dotted, defScope s_dotted, [], []⟩
def d_reduced : He.DefD := ⟨("reduced", none), "reduced", "reduced", defArgs s_reduced, defBody s_reduced, defScope s_reduced, [], []⟩
def d_multiplied : He.DefD := ⟨("multiplied", none), "multiplied", "multiplied", defArgs s_multiplied, defBody s_multiplied, defScope s_multiplied, [], []⟩
def d_moved_by : He.DefD := ⟨("moved_by", none), "moved_by", "moved_by", defArgs s_moved_by, defBody s_moved_by, defScope s_moved_by, [], []⟩
def d_is_sample : He.DefD := ⟨("is_sample", none), "is_sample", "is_sample", defArgs s_is_sample, defBody s_is_sample, defScope s_is_sample, [], []⟩
def d_are_samples : He.DefD := ⟨("are_samples", none), "are_samples", "are_samples", defArgs s_are_samples, defBody s_are_samples, defScope s_are_samples, [], []⟩
def d_wrapped : He.DefD := ⟨("wrapped", none), "wrapped", "wrapped", defArgs s_wrapped, defBody s_wrapped, defScope s_wrapped, [], []⟩
def d_check_rule : He.DefD := ⟨("check_rule", none), "check_rule", "check_rule", defArgs s_check_rule, defBody s_check_rule, defScope s_check_rule, [], []⟩
def d_check_firsts : He.DefD := ⟨("check_firsts", none), "check_firsts", "check_firsts", defArgs s_check_firsts, defBody s_check_firsts, defScope s_check_firsts, [], []⟩
def d_told_at : He.DefD := ⟨("told_at", none), "told_at", "told_at", defArgs s_told_at, defBody s_told_at, defScope s_told_at, [], []⟩
def d_gone_on : He.DefD := ⟨("gone_on", none), "gone_on", "gone_on", defArgs s_gone_on, defBody s_gone_on, defScope s_gone_on, [], []⟩
def d_state_at : He.DefD := ⟨("state_at", none), "state_at", "state_at", defArgs s_state_at, defBody s_state_at, defScope s_state_at, [], []⟩
def d_sample_at : He.DefD := ⟨("sample_at", none), "sample_at", "sample_at", defArgs s_sample_at, defBody s_sample_at, defScope s_sample_at, [], []⟩
def d_both_rows : He.DefD := ⟨("both_rows", none), "both_rows", "both_rows", defArgs s_both_rows, defBody s_both_rows, defScope s_both_rows, [], []⟩
def d_unlike_spots : He.DefD := ⟨("unlike_spots", none), "unlike_spots", "unlike_spots", defArgs s_unlike_spots, defBody s_unlike_spots, defScope s_unlike_spots, [], []⟩
def d_first_parted : He.DefD := ⟨("first_parted", none), "first_parted", "first_parted", defArgs s_first_parted, defBody s_first_parted, defScope s_first_parted, [], []⟩
def d_alike_from : He.DefD := ⟨("alike_from", none), "alike_from", "alike_from", defArgs s_alike_from, defBody s_alike_from, defScope s_alike_from, [], []⟩
def d_law_hash : He.DefD := ⟨("_law_hash", none), "_law_hash", "_law_hash", defArgs s_law_hash, defBody s_law_hash, defScope s_law_hash, [], []⟩
def d_law_generator : He.DefD := ⟨("_law_generator", none), "_law_generator", "_law_generator", defArgs s_law_generator, defBody s_law_generator, defScope s_law_generator, [], []⟩
def d_law_random : He.DefD := ⟨("_law_random", none), "_law_random", "_law_random", defArgs s_law_random, defBody s_law_random, defScope s_law_random, [], []⟩
def d_law_row : He.DefD := ⟨("_law_row", none), "_law_row", "_law_row", defArgs s_law_row, defBody s_law_row, defScope s_law_row, [], []⟩
def d_law_sum : He.DefD := ⟨("_law_sum", none), "_law_sum", "_law_sum", defArgs s_law_sum, defBody s_law_sum, defScope s_law_sum, [], []⟩
def d_law_gone : He.DefD := ⟨("_law_gone", none), "_law_gone", "_law_gone", defArgs s_law_gone, defBody s_law_gone, defScope s_law_gone, [], []⟩
def d_law_product : He.DefD := ⟨("_law_product", none), "_law_product", "_law_product", defArgs s_law_product, defBody s_law_product, defScope s_law_product, [], []⟩
def d_law_small : He.DefD := ⟨("_law_small", none), "_law_small", "_law_small", defArgs s_law_small, defBody s_law_small, defScope s_law_small, [], []⟩
def d_law_unlike : He.DefD := ⟨("_law_unlike", none), "_law_unlike", "_law_unlike", defArgs s_law_unlike, defBody s_law_unlike, defScope s_law_unlike, [], []⟩
def d_law_pair_good : He.DefD := ⟨("_law_pair_good", none), "_law_pair_good", "_law_pair_good", defArgs s_law_pair_good, defBody s_law_pair_good, defScope s_law_pair_good, [], []⟩
def d_law_caught : He.DefD := ⟨("_law_caught", none), "_law_caught", "_law_caught", defArgs s_law_caught, defBody s_law_caught, defScope s_law_caught, [], []⟩
def d_law_refused : He.DefD := ⟨("_law_refused", none), "_law_refused", "_law_refused", defArgs s_law_refused, defBody s_law_refused, defScope s_law_refused, [], []⟩
def d_law : He.DefD := ⟨("law", none), "law", "law", defArgs s_law, defBody s_law, defScope s_law, [], []⟩
def fn : List He.DefD := [d_is_whole, d_is_between, d_are_wholes, d_check_depth, d_check_number, d_dotted, d_reduced, d_multiplied, d_moved_by, d_is_sample, d_are_samples, d_wrapped, d_check_rule, d_check_firsts, d_told_at, d_gone_on, d_state_at, d_sample_at, d_both_rows, d_unlike_spots, d_first_parted, d_alike_from, d_law_hash, d_law_generator, d_law_random, d_law_row, d_law_sum, d_law_gone, d_law_product, d_law_small, d_law_unlike, d_law_pair_good, d_law_caught, d_law_refused, d_law]
def fa0 : List He.Fa := [.glo "is_whole", .glo "is_between", .glo "are_wholes", .glo "check_depth", .glo "check_number", .glo "dotted", .glo "reduced", .glo "multiplied", .glo "moved_by", .glo "is_sample", .glo "are_samples", .glo "wrapped", .glo "check_rule", .glo "check_firsts", .glo "told_at", .glo "gone_on", .glo "state_at", .glo "sample_at", .glo "both_rows", .glo "unlike_spots", .glo "first_parted", .glo "alike_from", .glo "_law_hash", .glo "_law_generator", .glo "_law_random", .glo "_law_row", .glo "_law_sum", .glo "_law_gone", .glo "_law_product", .glo "_law_small"]
def fa1 : List He.Fa := [.glo "_law_unlike", .glo "_law_pair_good", .glo "_law_caught", .glo "_law_refused", .glo "law", .free "len", .free "sum", .free "max", .free "int", .free "bool", .free "list", .free "range", .free "isinstance", .free "abs", .free "enumerate", .free "zip", .free "repr", .free "super", .int "MOST_DEPTH" 24, .int "MOST_WEIGHTS" 8, .int "MOST_WEIGHT" 32768, .int "MOST_PLACE" 1000000000000000000, .glo "InvalidNumber", .glo "InvalidDepth", .glo "InvalidRow", .glo "InvalidWeights", .glo "SoundError"]
def fa : List He.Fa := fa0 ++ fa1
/-- isinstance of an own class -/
def insB (K : PySem.W.Frag) (x : Str) : Bool := decide (PySem.W.findIn K (.ref (He.ga K x)) "__class__" = some (some (.builtin "object.__class__"))) && (decide (PySem.W.specialIn K (.builtin "object.__class__") "__get__" = some (some (.builtin "getset_descriptor.__get__"))) && (decide (PySem.W.takesIn K (.builtin "object.__class__") = some true) && (decide (PySem.W.mroIn K (He.ga K x) (.type "object") = some true) && decide (PySem.W.kitOne K (.ref (He.ga K x)) (.ref (He.ga K x)) = some true))))
theorem insB_ok {K : PySem.W.Frag} {x : Str} (cl : Cls K (He.ga K x)) (h : insB K x = true) : C8.InsC K (He.ga K x) := by
  unfold insB at h
  simp only [Bool.and_eq_true, decide_eq_true_eq] at h
  exact ⟨cl, h.1, h.2.1, h.2.2.1, h.2.2.2.1, h.2.2.2.2⟩
def eqB (K : PySem.W.Frag) (x : Str) : Bool := decide (PySem.W.findIn K (.ref (He.ga K x)) "__ne__" = some (some (.builtin "object.__ne__"))) && (decide (PySem.W.subIn K (.ref (He.ga K x)) (.type "object") = some true) && (decide (PySem.W.subIn K (.type "list") (.ref (He.ga K x)) = some false) && (decide (PySem.W.kitOne K (.type "list") (.ref (He.ga K x)) = some false) && (decide (PySem.W.subIn K (.type "tuple") (.ref (He.ga K x)) = some false) && decide (PySem.W.kitOne K (.type "tuple") (.ref (He.ga K x)) = some false)))))
def eqs : List Str := []
def own : List Str := []
def ex (K : PySem.W.Frag) : Bool := (own.all fun x => insB K x) && eqs.all fun x => eqB K x
abbrev R : PySem.W.OpenRow := PySem.W.OpenLaw.row PySem.Challenge.rw_wholesound_k21_rows_alike_for_ever
def errs : List Str := ["InvalidNumber", "InvalidDepth", "InvalidRow", "InvalidWeights"]
def ems : List (Str × Str × Bool) := [("InvalidNumber", "SoundError", true), ("InvalidNumber", "InvalidDepth", false), ("InvalidNumber", "InvalidWeights", false), ("InvalidNumber", "InvalidRow", false), ("InvalidDepth", "SoundError", true), ("InvalidDepth", "InvalidDepth", true), ("InvalidDepth", "InvalidWeights", false), ("InvalidDepth", "InvalidRow", false), ("InvalidRow", "SoundError", true), ("InvalidRow", "InvalidDepth", false), ("InvalidRow", "InvalidWeights", false), ("InvalidRow", "InvalidRow", true), ("InvalidWeights", "SoundError", true), ("InvalidWeights", "InvalidDepth", false), ("InvalidWeights", "InvalidWeights", true), ("InvalidWeights", "InvalidRow", false)]
def emB (K : PySem.W.Frag) (z : Str × Str × Bool) : Bool := decide (PySem.W.exmOne K (.ref (He.ga K z.1)) (.ref (He.ga K z.2.1)) = some z.2.2) && (decide (PySem.W.kitOne K (.ref (He.ga K z.1)) (.ref (He.ga K z.2.1)) = some z.2.2) && (decide (PySem.W.kitOne K (.type "NoneType") (.ref (He.ga K z.2.1)) = some false) && (decide (PySem.W.findIn K (.ref (He.ga K z.1)) "__class__" = some (some (.builtin "object.__class__"))) && (decide (PySem.W.specialIn K (.builtin "object.__class__") "__get__" = some (some (.builtin "getset_descriptor.__get__"))) && (decide (PySem.W.takesIn K (.builtin "object.__class__") = some true) && (decide (PySem.W.mroIn K (He.ga K z.1) (.type "object") = some true)))))))
theorem emB_ok {K : PySem.W.Frag} {z : Str × Str × Bool} (h : emB K z = true) : PySem.W.exmOne K (.ref (He.ga K z.1)) (.ref (He.ga K z.2.1)) = some z.2.2 ∧ PySem.W.kitOne K (.ref (He.ga K z.1)) (.ref (He.ga K z.2.1)) = some z.2.2 ∧ PySem.W.kitOne K (.type "NoneType") (.ref (He.ga K z.2.1)) = some false ∧ PySem.W.findIn K (.ref (He.ga K z.1)) "__class__" = some (some (.builtin "object.__class__")) ∧ PySem.W.specialIn K (.builtin "object.__class__") "__get__" = some (some (.builtin "getset_descriptor.__get__")) ∧ PySem.W.takesIn K (.builtin "object.__class__") = some true ∧ PySem.W.mroIn K (He.ga K z.1) (.type "object") = some true := by
  unfold emB at h
  simp only [Bool.and_eq_true, decide_eq_true_eq] at h
  exact h
def erV : List ErW := [some (("__init__" : Str), ("InvalidNumber" : Str) ++ (".__init__" : Str), defArgs s_InvalidNumber___init__, FuncBody.stmts (defBody s_InvalidNumber___init__), defScope s_InvalidNumber___init__, mainGlobals, builtinsNs), some (("__init__" : Str), ("InvalidDepth" : Str) ++ (".__init__" : Str), defArgs s_InvalidDepth___init__, FuncBody.stmts (defBody s_InvalidDepth___init__), defScope s_InvalidDepth___init__, mainGlobals, builtinsNs), some (("__init__" : Str), ("InvalidRow" : Str) ++ (".__init__" : Str), defArgs s_InvalidRow___init__, FuncBody.stmts (defBody s_InvalidRow___init__), defScope s_InvalidRow___init__, mainGlobals, builtinsNs), some (("__init__" : Str), ("InvalidWeights" : Str) ++ (".__init__" : Str), defArgs s_InvalidWeights___init__, FuncBody.stmts (defBody s_InvalidWeights___init__), defScope s_InvalidWeights___init__, mainGlobals, builtinsNs)]
def exP (K : PySem.W.Frag) : Bool := ex K && ((errs.all fun z => errB K fileS z) && ems.all fun z => emB K z)
def exW (K : PySem.W.Frag) : List ErW := errs.map fun z => erW K z
abbrev Al : Type := He.AlD × Bool × List ErW
def frK (g : Addr → Option Obj) : PySem.W.Frag := He.frG g (cStatics :: He.asD g 5)
def obsG (g : Addr → Option Obj) : Al := (He.obsD fa fn (frK g), exP (frK g), exW (frK g))
def Says (K : PySem.W.Frag) : Prop := He.SaysD fa fn K ∧ ex K = true ∧ (∀ z ∈ errs, errB K fileS z = true) ∧ (∀ z ∈ ems, emB K z = true) ∧ exW K = erV
theorem says_of {K : PySem.W.Frag} (e : (He.obsD fa fn K, exP K, exW K) = ((He.valD fn, true, erV) : Al)) : Says K := by
  have e1 := congrArg Prod.fst e
  have e2 := congrArg (fun z : Al => z.2.1) e
  have e3 := congrArg (fun z : Al => z.2.2) e
  have e4 : ex K = true ∧ ((errs.all fun z => errB K fileS z) && ems.all fun z => emB K z) = true := Bool.and_eq_true_iff.mp (show (ex K && ((errs.all fun z => errB K fileS z) && ems.all fun z => emB K z)) = true from e2)
  have e5 : (errs.all fun z => errB K fileS z) = true ∧ (ems.all fun z => emB K z) = true := Bool.and_eq_true_iff.mp e4.2
  exact ⟨e1, e4.1, List.all_eq_true.mp e5.1, List.all_eq_true.mp e5.2, e3⟩
theorem erV_at {K : PySem.W.Frag} {ps : List Str} {vs : List ErW} (e : (ps.map fun z => erW K z) = vs) (i : Nat) {z : Str} {v : ErW} (hz : ps[i]? = some z) (hv : vs[i]? = some v) : erW K z = v := by
  rw [← e, List.getElem?_map, hz] at hv
  exact Option.some.inj hv
def hk : PySem.W.Hook where
  α := Al
  obs := fun s => obsG s.heap.get?
  val := fun _ => (He.valD fn, true, erV)
  says := fun _ h => ∃ K : PySem.W.Frag, K.In h ∧ Says K
  of := fun _ _ e => ⟨_, He.frG_in, says_of e⟩
  keeps := fun _ _ _ ⟨K, hK, c⟩ k => ⟨K, PySem.W.Frag.In.keeps hK k, c⟩
def ob (s : PySem.W.SharedT) : Al := obsG (HandSHeadRun.getT s)
theorem ob_eq (s : PySem.W.SharedT) : ob s = hk.obs s.abs := by
  have e : HandSHeadRun.getT s = s.abs.heap.get? := funext (HandSHeadRun.getT_eq s)
  show obsG (HandSHeadRun.getT s) = obsG s.abs.heap.get?
  rw [e]
def loose0 : List PySem.Str := ["SoundError", "InvalidNumber", "InvalidDepth", "InvalidRow", "InvalidWeights", "MOST_DEPTH", "is_whole", "is_between", "are_wholes", "check_depth", "check_number", "dotted", "reduced", "multiplied", "moved_by", "is_sample", "are_samples", "wrapped", "MOST_WEIGHTS", "MOST_WEIGHT", "MOST_PLACE", "check_rule", "check_firsts", "told_at", "gone_on", "state_at", "sample_at", "both_rows", "unlike_spots", "first_parted"]
def loose1 : List PySem.Str := ["alike_from", "_law_hash", "_law_generator", "_law_random", "_law_row", "_law_sum", "_law_gone", "_law_product", "_law_small", "_law_unlike", "_law_pair_good", "_law_caught", "_law_refused"]
abbrev loose : List PySem.Str := loose0 ++ loose1
theorem run (w : World) : HandSHeadRun.RunEq R (PySem.W.view R.prog [50]) hk ob 8000 loose w := by
  intro os
  kernel_rfl
noncomputable def top_mk {K : PySem.W.Frag} {h : Heap} {mg : Str → Option Value} (X : K.In h) (G : h.Ns mainGlobals mg) (c : Says K) : Top K mg :=
  let p0 := c.1.def_ 0 (d := d_is_whole) rfl
  let p1 := c.1.def_ 1 (d := d_is_between) rfl
  let p2 := c.1.def_ 2 (d := d_are_wholes) rfl
  let p3 := c.1.def_ 3 (d := d_check_depth) rfl
  let p4 := c.1.def_ 4 (d := d_check_number) rfl
  let p5 := c.1.def_ 5 (d := d_dotted) rfl
  let p6 := c.1.def_ 6 (d := d_reduced) rfl
  let p7 := c.1.def_ 7 (d := d_multiplied) rfl
  let p8 := c.1.def_ 8 (d := d_moved_by) rfl
  let p9 := c.1.def_ 9 (d := d_is_sample) rfl
  let p10 := c.1.def_ 10 (d := d_are_samples) rfl
  let p11 := c.1.def_ 11 (d := d_wrapped) rfl
  let p12 := c.1.def_ 12 (d := d_check_rule) rfl
  let p13 := c.1.def_ 13 (d := d_check_firsts) rfl
  let p14 := c.1.def_ 14 (d := d_told_at) rfl
  let p15 := c.1.def_ 15 (d := d_gone_on) rfl
  let p16 := c.1.def_ 16 (d := d_state_at) rfl
  let p17 := c.1.def_ 17 (d := d_sample_at) rfl
  let p18 := c.1.def_ 18 (d := d_both_rows) rfl
  let p19 := c.1.def_ 19 (d := d_unlike_spots) rfl
  let p20 := c.1.def_ 20 (d := d_first_parted) rfl
  let p21 := c.1.def_ 21 (d := d_alike_from) rfl
  let p22 := c.1.def_ 22 (d := d_law_hash) rfl
  let p23 := c.1.def_ 23 (d := d_law_generator) rfl
  let p24 := c.1.def_ 24 (d := d_law_random) rfl
  let p25 := c.1.def_ 25 (d := d_law_row) rfl
  let p26 := c.1.def_ 26 (d := d_law_sum) rfl
  let p27 := c.1.def_ 27 (d := d_law_gone) rfl
  let p28 := c.1.def_ 28 (d := d_law_product) rfl
  let p29 := c.1.def_ 29 (d := d_law_small) rfl
  let p30 := c.1.def_ 30 (d := d_law_unlike) rfl
  let p31 := c.1.def_ 31 (d := d_law_pair_good) rfl
  let p32 := c.1.def_ 32 (d := d_law_caught) rfl
  let p33 := c.1.def_ 33 (d := d_law_refused) rfl
  let p34 := c.1.def_ 34 (d := d_law) rfl
  let q0 := He.int_ok X G (c.1.fact 48 (f := .int "MOST_DEPTH" 24) rfl)
  let q1 := He.int_ok X G (c.1.fact 49 (f := .int "MOST_WEIGHTS" 8) rfl)
  let q2 := He.int_ok X G (c.1.fact 50 (f := .int "MOST_WEIGHT" 32768) rfl)
  let q3 := He.int_ok X G (c.1.fact 51 (f := .int "MOST_PLACE" 1000000000000000000) rfl)
  let er0 := err_ok (K := K) (file := fileS) (x := "InvalidNumber") (st := s_InvalidNumber___init__) (c.2.2.1 "InvalidNumber" (by decide +kernel)) (erV_at c.2.2.2.2 0 (z := "InvalidNumber") rfl rfl) (fun _ _ _ _ _ _ _ _ us its h1 h2 => match us, its, h1, h2 with | [_, _], [_], _, _ => ⟨_, rfl, rfl⟩)
  let er1 := err_ok (K := K) (file := fileS) (x := "InvalidDepth") (st := s_InvalidDepth___init__) (c.2.2.1 "InvalidDepth" (by decide +kernel)) (erV_at c.2.2.2.2 1 (z := "InvalidDepth") rfl rfl) (fun _ _ _ _ _ _ _ _ us its h1 h2 => match us, its, h1, h2 with | [_, _], [_], _, _ => ⟨_, rfl, rfl⟩)
  let er2 := err_ok (K := K) (file := fileS) (x := "InvalidRow") (st := s_InvalidRow___init__) (c.2.2.1 "InvalidRow" (by decide +kernel)) (erV_at c.2.2.2.2 2 (z := "InvalidRow") rfl rfl) (fun _ _ _ _ _ _ _ _ us its h1 h2 => match us, its, h1, h2 with | [_, _], [_], _, _ => ⟨_, rfl, rfl⟩)
  let er3 := err_ok (K := K) (file := fileS) (x := "InvalidWeights") (st := s_InvalidWeights___init__) (c.2.2.1 "InvalidWeights" (by decide +kernel)) (erV_at c.2.2.2.2 3 (z := "InvalidWeights") rfl rfl) (fun _ _ _ _ _ _ _ _ us its h1 h2 => match us, its, h1, h2 with | [_, _], [_], _, _ => ⟨_, rfl, rfl⟩)
  { C_InvalidNumber := _, gc_InvalidNumber := He.glo_ok X G (c.1.fact 52 (f := .glo "InvalidNumber") rfl), fi_InvalidNumber := _, fd_InvalidNumber := er0.choose, er_InvalidNumber := er0.choose_spec,
    C_InvalidDepth := _, gc_InvalidDepth := He.glo_ok X G (c.1.fact 53 (f := .glo "InvalidDepth") rfl), fi_InvalidDepth := _, fd_InvalidDepth := er1.choose, er_InvalidDepth := er1.choose_spec,
    C_InvalidRow := _, gc_InvalidRow := He.glo_ok X G (c.1.fact 54 (f := .glo "InvalidRow") rfl), fi_InvalidRow := _, fd_InvalidRow := er2.choose, er_InvalidRow := er2.choose_spec,
    C_InvalidWeights := _, gc_InvalidWeights := He.glo_ok X G (c.1.fact 55 (f := .glo "InvalidWeights") rfl), fi_InvalidWeights := _, fd_InvalidWeights := er3.choose, er_InvalidWeights := er3.choose_spec,
    C_SoundError := _, gc_SoundError := He.glo_ok X G (c.1.fact 56 (f := .glo "SoundError") rfl),
    em_InvalidNumber_SoundError := (emB_ok (c.2.2.2.1 ("InvalidNumber", "SoundError", true) (by decide +kernel))).1, ki_InvalidNumber_SoundError := (emB_ok (c.2.2.2.1 ("InvalidNumber", "SoundError", true) (by decide +kernel))).2.1,
    em_InvalidNumber_InvalidDepth := (emB_ok (c.2.2.2.1 ("InvalidNumber", "InvalidDepth", false) (by decide +kernel))).1, ki_InvalidNumber_InvalidDepth := (emB_ok (c.2.2.2.1 ("InvalidNumber", "InvalidDepth", false) (by decide +kernel))).2.1,
    em_InvalidNumber_InvalidWeights := (emB_ok (c.2.2.2.1 ("InvalidNumber", "InvalidWeights", false) (by decide +kernel))).1, ki_InvalidNumber_InvalidWeights := (emB_ok (c.2.2.2.1 ("InvalidNumber", "InvalidWeights", false) (by decide +kernel))).2.1,
    em_InvalidNumber_InvalidRow := (emB_ok (c.2.2.2.1 ("InvalidNumber", "InvalidRow", false) (by decide +kernel))).1, ki_InvalidNumber_InvalidRow := (emB_ok (c.2.2.2.1 ("InvalidNumber", "InvalidRow", false) (by decide +kernel))).2.1,
    em_InvalidDepth_SoundError := (emB_ok (c.2.2.2.1 ("InvalidDepth", "SoundError", true) (by decide +kernel))).1, ki_InvalidDepth_SoundError := (emB_ok (c.2.2.2.1 ("InvalidDepth", "SoundError", true) (by decide +kernel))).2.1,
    em_InvalidDepth_InvalidDepth := (emB_ok (c.2.2.2.1 ("InvalidDepth", "InvalidDepth", true) (by decide +kernel))).1, ki_InvalidDepth_InvalidDepth := (emB_ok (c.2.2.2.1 ("InvalidDepth", "InvalidDepth", true) (by decide +kernel))).2.1,
    em_InvalidDepth_InvalidWeights := (emB_ok (c.2.2.2.1 ("InvalidDepth", "InvalidWeights", false) (by decide +kernel))).1, ki_InvalidDepth_InvalidWeights := (emB_ok (c.2.2.2.1 ("InvalidDepth", "InvalidWeights", false) (by decide +kernel))).2.1,
    em_InvalidDepth_InvalidRow := (emB_ok (c.2.2.2.1 ("InvalidDepth", "InvalidRow", false) (by decide +kernel))).1, ki_InvalidDepth_InvalidRow := (emB_ok (c.2.2.2.1 ("InvalidDepth", "InvalidRow", false) (by decide +kernel))).2.1,
    em_InvalidRow_SoundError := (emB_ok (c.2.2.2.1 ("InvalidRow", "SoundError", true) (by decide +kernel))).1, ki_InvalidRow_SoundError := (emB_ok (c.2.2.2.1 ("InvalidRow", "SoundError", true) (by decide +kernel))).2.1,
    em_InvalidRow_InvalidDepth := (emB_ok (c.2.2.2.1 ("InvalidRow", "InvalidDepth", false) (by decide +kernel))).1, ki_InvalidRow_InvalidDepth := (emB_ok (c.2.2.2.1 ("InvalidRow", "InvalidDepth", false) (by decide +kernel))).2.1,
    em_InvalidRow_InvalidWeights := (emB_ok (c.2.2.2.1 ("InvalidRow", "InvalidWeights", false) (by decide +kernel))).1, ki_InvalidRow_InvalidWeights := (emB_ok (c.2.2.2.1 ("InvalidRow", "InvalidWeights", false) (by decide +kernel))).2.1,
    em_InvalidRow_InvalidRow := (emB_ok (c.2.2.2.1 ("InvalidRow", "InvalidRow", true) (by decide +kernel))).1, ki_InvalidRow_InvalidRow := (emB_ok (c.2.2.2.1 ("InvalidRow", "InvalidRow", true) (by decide +kernel))).2.1,
    em_InvalidWeights_SoundError := (emB_ok (c.2.2.2.1 ("InvalidWeights", "SoundError", true) (by decide +kernel))).1, ki_InvalidWeights_SoundError := (emB_ok (c.2.2.2.1 ("InvalidWeights", "SoundError", true) (by decide +kernel))).2.1,
    em_InvalidWeights_InvalidDepth := (emB_ok (c.2.2.2.1 ("InvalidWeights", "InvalidDepth", false) (by decide +kernel))).1, ki_InvalidWeights_InvalidDepth := (emB_ok (c.2.2.2.1 ("InvalidWeights", "InvalidDepth", false) (by decide +kernel))).2.1,
    em_InvalidWeights_InvalidWeights := (emB_ok (c.2.2.2.1 ("InvalidWeights", "InvalidWeights", true) (by decide +kernel))).1, ki_InvalidWeights_InvalidWeights := (emB_ok (c.2.2.2.1 ("InvalidWeights", "InvalidWeights", true) (by decide +kernel))).2.1,
    em_InvalidWeights_InvalidRow := (emB_ok (c.2.2.2.1 ("InvalidWeights", "InvalidRow", false) (by decide +kernel))).1, ki_InvalidWeights_InvalidRow := (emB_ok (c.2.2.2.1 ("InvalidWeights", "InvalidRow", false) (by decide +kernel))).2.1,
    kn_InvalidDepth := (emB_ok (c.2.2.2.1 ("InvalidNumber", "InvalidDepth", false) (by decide +kernel))).2.2.1,
    kn_InvalidWeights := (emB_ok (c.2.2.2.1 ("InvalidNumber", "InvalidWeights", false) (by decide +kernel))).2.2.1,
    kn_InvalidRow := (emB_ok (c.2.2.2.1 ("InvalidNumber", "InvalidRow", false) (by decide +kernel))).2.2.1,
    ei_InvalidNumber := ⟨(er0.choose_spec).xf, (emB_ok (c.2.2.2.1 ("InvalidNumber", "SoundError", true) (by decide +kernel))).2.2.2.1, (emB_ok (c.2.2.2.1 ("InvalidNumber", "SoundError", true) (by decide +kernel))).2.2.2.2.1, (emB_ok (c.2.2.2.1 ("InvalidNumber", "SoundError", true) (by decide +kernel))).2.2.2.2.2.1, (emB_ok (c.2.2.2.1 ("InvalidNumber", "SoundError", true) (by decide +kernel))).2.2.2.2.2.2⟩,
    ei_InvalidDepth := ⟨(er1.choose_spec).xf, (emB_ok (c.2.2.2.1 ("InvalidDepth", "SoundError", true) (by decide +kernel))).2.2.2.1, (emB_ok (c.2.2.2.1 ("InvalidDepth", "SoundError", true) (by decide +kernel))).2.2.2.2.1, (emB_ok (c.2.2.2.1 ("InvalidDepth", "SoundError", true) (by decide +kernel))).2.2.2.2.2.1, (emB_ok (c.2.2.2.1 ("InvalidDepth", "SoundError", true) (by decide +kernel))).2.2.2.2.2.2⟩,
    ei_InvalidRow := ⟨(er2.choose_spec).xf, (emB_ok (c.2.2.2.1 ("InvalidRow", "SoundError", true) (by decide +kernel))).2.2.2.1, (emB_ok (c.2.2.2.1 ("InvalidRow", "SoundError", true) (by decide +kernel))).2.2.2.2.1, (emB_ok (c.2.2.2.1 ("InvalidRow", "SoundError", true) (by decide +kernel))).2.2.2.2.2.1, (emB_ok (c.2.2.2.1 ("InvalidRow", "SoundError", true) (by decide +kernel))).2.2.2.2.2.2⟩,
    ei_InvalidWeights := ⟨(er3.choose_spec).xf, (emB_ok (c.2.2.2.1 ("InvalidWeights", "SoundError", true) (by decide +kernel))).2.2.2.1, (emB_ok (c.2.2.2.1 ("InvalidWeights", "SoundError", true) (by decide +kernel))).2.2.2.2.1, (emB_ok (c.2.2.2.1 ("InvalidWeights", "SoundError", true) (by decide +kernel))).2.2.2.2.2.1, (emB_ok (c.2.2.2.1 ("InvalidWeights", "SoundError", true) (by decide +kernel))).2.2.2.2.2.2⟩,
    f_is_whole := _, fd_is_whole := p0.choose, F_is_whole := p0.choose_spec, b_is_whole := p0.choose_spec.bindsN fun _ _ _ _ _ _ us hl => match us, hl with | [_], _ => rfl, g_is_whole := He.glo_ok X G (c.1.fact 0 (f := .glo "is_whole") rfl),
    f_is_between := _, fd_is_between := p1.choose, F_is_between := p1.choose_spec, b_is_between := p1.choose_spec.bindsN fun _ _ _ _ _ _ us hl => match us, hl with | [_, _, _], _ => rfl, g_is_between := He.glo_ok X G (c.1.fact 1 (f := .glo "is_between") rfl),
    f_are_wholes := _, fd_are_wholes := p2.choose, F_are_wholes := p2.choose_spec, b_are_wholes := p2.choose_spec.bindsN fun _ _ _ _ _ _ us hl => match us, hl with | [_], _ => rfl, g_are_wholes := He.glo_ok X G (c.1.fact 2 (f := .glo "are_wholes") rfl),
    f_check_depth := _, fd_check_depth := p3.choose, F_check_depth := p3.choose_spec, b_check_depth := nil_binds (p3.choose_spec.binds1 (ps := ["depth", "most"]) 2 1 (by simp [He.DefD.dvs, d_check_depth]) rfl fun _ _ _ _ _ _ _ us its h1 h2 => match us, its, h1, h2 with | [_, _], [_], _, _ => ⟨_, rfl, rfl⟩), e0_check_depth := (p3.choose_spec.binds1 (ps := ["depth", "most"]) 1 0 (by simp [He.DefD.dvs, d_check_depth]) rfl fun _ _ _ _ _ _ _ us its h1 h2 => match us, its, h1, h2 with | [_], [_], _, _ => ⟨_, rfl, rfl⟩).choose, v0_check_depth := (p3.choose_spec.binds1 (ps := ["depth", "most"]) 1 0 (by simp [He.DefD.dvs, d_check_depth]) rfl fun _ _ _ _ _ _ _ us its h1 h2 => match us, its, h1, h2 with | [_], [_], _, _ => ⟨_, rfl, rfl⟩).choose_spec.1, b0_check_depth := (p3.choose_spec.binds1 (ps := ["depth", "most"]) 1 0 (by simp [He.DefD.dvs, d_check_depth]) rfl fun _ _ _ _ _ _ _ us its h1 h2 => match us, its, h1, h2 with | [_], [_], _, _ => ⟨_, rfl, rfl⟩).choose_spec.2, g_check_depth := He.glo_ok X G (c.1.fact 3 (f := .glo "check_depth") rfl),
    f_check_number := _, fd_check_number := p4.choose, F_check_number := p4.choose_spec, b_check_number := p4.choose_spec.bindsN fun _ _ _ _ _ _ us hl => match us, hl with | [_, _, _], _ => rfl, g_check_number := He.glo_ok X G (c.1.fact 4 (f := .glo "check_number") rfl),
    f_dotted := _, fd_dotted := p5.choose, F_dotted := p5.choose_spec, b_dotted := p5.choose_spec.bindsN fun _ _ _ _ _ _ us hl => match us, hl with | [_, _], _ => rfl, g_dotted := He.glo_ok X G (c.1.fact 5 (f := .glo "dotted") rfl),
    f_reduced := _, fd_reduced := p6.choose, F_reduced := p6.choose_spec, b_reduced := p6.choose_spec.bindsN fun _ _ _ _ _ _ us hl => match us, hl with | [_, _, _], _ => rfl, g_reduced := He.glo_ok X G (c.1.fact 6 (f := .glo "reduced") rfl),
    f_multiplied := _, fd_multiplied := p7.choose, F_multiplied := p7.choose_spec, b_multiplied := p7.choose_spec.bindsN fun _ _ _ _ _ _ us hl => match us, hl with | [_, _], _ => rfl, g_multiplied := He.glo_ok X G (c.1.fact 7 (f := .glo "multiplied") rfl),
    f_moved_by := _, fd_moved_by := p8.choose, F_moved_by := p8.choose_spec, b_moved_by := p8.choose_spec.bindsN fun _ _ _ _ _ _ us hl => match us, hl with | [_, _, _], _ => rfl, g_moved_by := He.glo_ok X G (c.1.fact 8 (f := .glo "moved_by") rfl),
    f_is_sample := _, fd_is_sample := p9.choose, F_is_sample := p9.choose_spec, b_is_sample := p9.choose_spec.bindsN fun _ _ _ _ _ _ us hl => match us, hl with | [_, _], _ => rfl, g_is_sample := He.glo_ok X G (c.1.fact 9 (f := .glo "is_sample") rfl),
    f_are_samples := _, fd_are_samples := p10.choose, F_are_samples := p10.choose_spec, b_are_samples := p10.choose_spec.bindsN fun _ _ _ _ _ _ us hl => match us, hl with | [_, _], _ => rfl, g_are_samples := He.glo_ok X G (c.1.fact 10 (f := .glo "are_samples") rfl),
    f_wrapped := _, fd_wrapped := p11.choose, F_wrapped := p11.choose_spec, b_wrapped := p11.choose_spec.bindsN fun _ _ _ _ _ _ us hl => match us, hl with | [_, _], _ => rfl, g_wrapped := He.glo_ok X G (c.1.fact 11 (f := .glo "wrapped") rfl),
    f_check_rule := _, fd_check_rule := p12.choose, F_check_rule := p12.choose_spec, b_check_rule := p12.choose_spec.bindsN fun _ _ _ _ _ _ us hl => match us, hl with | [_], _ => rfl, g_check_rule := He.glo_ok X G (c.1.fact 12 (f := .glo "check_rule") rfl),
    f_check_firsts := _, fd_check_firsts := p13.choose, F_check_firsts := p13.choose_spec, b_check_firsts := p13.choose_spec.bindsN fun _ _ _ _ _ _ us hl => match us, hl with | [_, _, _], _ => rfl, g_check_firsts := He.glo_ok X G (c.1.fact 13 (f := .glo "check_firsts") rfl),
    f_told_at := _, fd_told_at := p14.choose, F_told_at := p14.choose_spec, b_told_at := p14.choose_spec.bindsN fun _ _ _ _ _ _ us hl => match us, hl with | [_, _, _], _ => rfl, g_told_at := He.glo_ok X G (c.1.fact 14 (f := .glo "told_at") rfl),
    f_gone_on := _, fd_gone_on := p15.choose, F_gone_on := p15.choose_spec, b_gone_on := p15.choose_spec.bindsN fun _ _ _ _ _ _ us hl => match us, hl with | [_, _, _, _], _ => rfl, g_gone_on := He.glo_ok X G (c.1.fact 15 (f := .glo "gone_on") rfl),
    f_state_at := _, fd_state_at := p16.choose, F_state_at := p16.choose_spec, b_state_at := p16.choose_spec.bindsN fun _ _ _ _ _ _ us hl => match us, hl with | [_, _, _, _], _ => rfl, g_state_at := He.glo_ok X G (c.1.fact 16 (f := .glo "state_at") rfl),
    f_sample_at := _, fd_sample_at := p17.choose, F_sample_at := p17.choose_spec, b_sample_at := p17.choose_spec.bindsN fun _ _ _ _ _ _ us hl => match us, hl with | [_, _, _, _], _ => rfl, g_sample_at := He.glo_ok X G (c.1.fact 17 (f := .glo "sample_at") rfl),
    f_both_rows := _, fd_both_rows := p18.choose, F_both_rows := p18.choose_spec, b_both_rows := p18.choose_spec.bindsN fun _ _ _ _ _ _ us hl => match us, hl with | [_, _, _, _, _, _], _ => rfl, g_both_rows := He.glo_ok X G (c.1.fact 18 (f := .glo "both_rows") rfl),
    f_unlike_spots := _, fd_unlike_spots := p19.choose, F_unlike_spots := p19.choose_spec, b_unlike_spots := p19.choose_spec.bindsN fun _ _ _ _ _ _ us hl => match us, hl with | [_, _], _ => rfl, g_unlike_spots := He.glo_ok X G (c.1.fact 19 (f := .glo "unlike_spots") rfl),
    f_first_parted := _, fd_first_parted := p20.choose, F_first_parted := p20.choose_spec, b_first_parted := p20.choose_spec.bindsN fun _ _ _ _ _ _ us hl => match us, hl with | [_, _, _, _, _], _ => rfl, g_first_parted := He.glo_ok X G (c.1.fact 20 (f := .glo "first_parted") rfl),
    f_alike_from := _, fd_alike_from := p21.choose, F_alike_from := p21.choose_spec, b_alike_from := p21.choose_spec.bindsN fun _ _ _ _ _ _ us hl => match us, hl with | [_, _, _, _, _], _ => rfl, g_alike_from := He.glo_ok X G (c.1.fact 21 (f := .glo "alike_from") rfl),
    f_law_hash := _, fd_law_hash := p22.choose, F_law_hash := p22.choose_spec, b_law_hash := p22.choose_spec.bindsN fun _ _ _ _ _ _ us hl => match us, hl with | [_, _], _ => rfl, g_law_hash := He.glo_ok X G (c.1.fact 22 (f := .glo "_law_hash") rfl),
    f_law_generator := _, fd_law_generator := p23.choose, F_law_generator := p23.choose_spec, b_law_generator := p23.choose_spec.bindsN fun _ _ _ _ _ _ us hl => match us, hl with | [_, _], _ => rfl, g_law_generator := He.glo_ok X G (c.1.fact 23 (f := .glo "_law_generator") rfl),
    f_law_random := _, fd_law_random := p24.choose, F_law_random := p24.choose_spec, b_law_random := p24.choose_spec.bindsN fun _ _ _ _ _ _ us hl => match us, hl with | [_, _], _ => rfl, g_law_random := He.glo_ok X G (c.1.fact 24 (f := .glo "_law_random") rfl),
    f_law_row := _, fd_law_row := p25.choose, F_law_row := p25.choose_spec, b_law_row := p25.choose_spec.bindsN fun _ _ _ _ _ _ us hl => match us, hl with | [_, _, _], _ => rfl, g_law_row := He.glo_ok X G (c.1.fact 25 (f := .glo "_law_row") rfl),
    f_law_sum := _, fd_law_sum := p26.choose, F_law_sum := p26.choose_spec, b_law_sum := p26.choose_spec.bindsN fun _ _ _ _ _ _ us hl => match us, hl with | [_, _, _], _ => rfl, g_law_sum := He.glo_ok X G (c.1.fact 26 (f := .glo "_law_sum") rfl),
    f_law_gone := _, fd_law_gone := p27.choose, F_law_gone := p27.choose_spec, b_law_gone := p27.choose_spec.bindsN fun _ _ _ _ _ _ us hl => match us, hl with | [_, _, _, _], _ => rfl, g_law_gone := He.glo_ok X G (c.1.fact 27 (f := .glo "_law_gone") rfl),
    f_law_product := _, fd_law_product := p28.choose, F_law_product := p28.choose_spec, b_law_product := p28.choose_spec.bindsN fun _ _ _ _ _ _ us hl => match us, hl with | [_, _], _ => rfl, g_law_product := He.glo_ok X G (c.1.fact 28 (f := .glo "_law_product") rfl),
    f_law_small := _, fd_law_small := p29.choose, F_law_small := p29.choose_spec, b_law_small := p29.choose_spec.bindsN fun _ _ _ _ _ _ us hl => match us, hl with | [_, _], _ => rfl, g_law_small := He.glo_ok X G (c.1.fact 29 (f := .glo "_law_small") rfl),
    f_law_unlike := _, fd_law_unlike := p30.choose, F_law_unlike := p30.choose_spec, b_law_unlike := p30.choose_spec.bindsN fun _ _ _ _ _ _ us hl => match us, hl with | [_, _, _, _, _, _], _ => rfl, g_law_unlike := He.glo_ok X G (c.1.fact 30 (f := .glo "_law_unlike") rfl),
    f_law_pair_good := _, fd_law_pair_good := p31.choose, F_law_pair_good := p31.choose_spec, b_law_pair_good := p31.choose_spec.bindsN fun _ _ _ _ _ _ us hl => match us, hl with | [_, _, _, _, _, _], _ => rfl, g_law_pair_good := He.glo_ok X G (c.1.fact 31 (f := .glo "_law_pair_good") rfl),
    f_law_caught := _, fd_law_caught := p32.choose, F_law_caught := p32.choose_spec, b_law_caught := p32.choose_spec.bindsN fun _ _ _ _ _ _ us hl => match us, hl with | [_, _], _ => rfl, g_law_caught := He.glo_ok X G (c.1.fact 32 (f := .glo "_law_caught") rfl),
    f_law_refused := _, fd_law_refused := p33.choose, F_law_refused := p33.choose_spec, b_law_refused := p33.choose_spec.bindsN fun _ _ _ _ _ _ us hl => match us, hl with | [], _ => rfl, g_law_refused := He.glo_ok X G (c.1.fact 33 (f := .glo "_law_refused") rfl),
    f_law := _, fd_law := p34.choose, F_law := p34.choose_spec, b_law := p34.choose_spec.bindsN fun _ _ _ _ _ _ us hl => match us, hl with | [_], _ => rfl, g_law := He.glo_ok X G (c.1.fact 34 (f := .glo "law") rfl),
    n_len := He.free_ok X G (c.1.fact 35 (f := .free "len") rfl),
    n_sum := He.free_ok X G (c.1.fact 36 (f := .free "sum") rfl),
    n_max := He.free_ok X G (c.1.fact 37 (f := .free "max") rfl),
    n_int := He.free_ok X G (c.1.fact 38 (f := .free "int") rfl),
    n_bool := He.free_ok X G (c.1.fact 39 (f := .free "bool") rfl),
    n_list := He.free_ok X G (c.1.fact 40 (f := .free "list") rfl),
    n_range := He.free_ok X G (c.1.fact 41 (f := .free "range") rfl),
    n_isinstance := He.free_ok X G (c.1.fact 42 (f := .free "isinstance") rfl),
    n_abs := He.free_ok X G (c.1.fact 43 (f := .free "abs") rfl),
    n_enumerate := He.free_ok X G (c.1.fact 44 (f := .free "enumerate") rfl),
    n_zip := He.free_ok X G (c.1.fact 45 (f := .free "zip") rfl),
    n_repr := He.free_ok X G (c.1.fact 46 (f := .free "repr") rfl),
    n_super := He.free_ok X G (c.1.fact 47 (f := .free "super") rfl),
    t_MOST_DEPTH := q0.choose, m_MOST_DEPTH := q0.choose_spec,
    t_MOST_WEIGHTS := q1.choose, m_MOST_WEIGHTS := q1.choose_spec,
    t_MOST_WEIGHT := q2.choose, m_MOST_WEIGHT := q2.choose_spec,
    t_MOST_PLACE := q3.choose, m_MOST_PLACE := q3.choose_spec }
theorem G_InvalidNumber___init__ {P : Program} {w : World} {K : PySem.W.Frag} {mg : Str → Option Value} {base : Heap} {CX : CXT} [Sup.PF P fileS] (T : Top K mg) : FnOk P w K mg base CX 1 T.fi_InvalidNumber T.fd_InvalidNumber ["self", "value"] (Sup.sp_exc_init T.C_InvalidNumber) := Sup.fn_sup nsc_InvalidNumber (by decide +kernel) sb_InvalidNumber T.er_InvalidNumber.sup T.n_super
theorem G_InvalidDepth___init__ {P : Program} {w : World} {K : PySem.W.Frag} {mg : Str → Option Value} {base : Heap} {CX : CXT} [Sup.PF P fileS] (T : Top K mg) : FnOk P w K mg base CX 1 T.fi_InvalidDepth T.fd_InvalidDepth ["self", "value"] (Sup.sp_exc_init T.C_InvalidDepth) := Sup.fn_sup nsc_InvalidDepth (by decide +kernel) sb_InvalidDepth T.er_InvalidDepth.sup T.n_super
theorem G_InvalidRow___init__ {P : Program} {w : World} {K : PySem.W.Frag} {mg : Str → Option Value} {base : Heap} {CX : CXT} [Sup.PF P fileS] (T : Top K mg) : FnOk P w K mg base CX 1 T.fi_InvalidRow T.fd_InvalidRow ["self", "value"] (Sup.sp_exc_init T.C_InvalidRow) := Sup.fn_sup nsc_InvalidRow (by decide +kernel) sb_InvalidRow T.er_InvalidRow.sup T.n_super
theorem G_InvalidWeights___init__ {P : Program} {w : World} {K : PySem.W.Frag} {mg : Str → Option Value} {base : Heap} {CX : CXT} [Sup.PF P fileS] (T : Top K mg) : FnOk P w K mg base CX 1 T.fi_InvalidWeights T.fd_InvalidWeights ["self", "value"] (Sup.sp_exc_init T.C_InvalidWeights) := Sup.fn_sup nsc_InvalidWeights (by decide +kernel) sb_InvalidWeights T.er_InvalidWeights.sup T.n_super
end My

namespace My
open PySem PySem.Spec PyProof.Rows L2 Pre
open Sem (wp)
/-! ### zip(xs, ys, strict=True) of lists and tuples of one length -/
/-- a strict zip object -/
abbrev SZip (h : Heap) (z TI TO : Addr) (f0 : Value) : Prop :=
  h.get? z = some { cls := .type "zip", dict := none, data := .fields #[f0, .bool false, .bool true, .ref TI, .ref TO], slots := #[] }
section
variable {prog : Program} {w : World} {A : Around} {E : Value → Shared → Prop} {s : Shared}
theorem draw_some {it : Addr} {fp : List Addr} {n i : Nat} {Pd : Nat → Value → Prop} {St : Nat → Heap → Prop} {Q : Option Value → Shared → Prop} (Dr : Draws prog w A it fp n Pd St) (lt : i < n) (st : St i s.heap)
    (go : ∀ x g' tk, Pd i x → St (i + 1) g' → Heap.SameBut it s.heap g' → Q (some x) { s with heap := g', toks := tk }) : wpAny (model prog w) A (Builtin.SmallTypes.nextOrEnd (.ref it)) Q E s := by
  unfold Builtin.SmallTypes.nextOrEnd
  exact wpAny_bind (wpAny_attempt (Dr.item i _ _ _ lt st fun x g' tk px st' sb => wpAny_pure (go x g' tk px st' sb)))
theorem draw_none {it : Addr} {fp : List Addr} {n : Nat} {Pd : Nat → Value → Prop} {St : Nat → Heap → Prop} {Q : Option Value → Shared → Prop} (Dr : Draws prog w A it fp n Pd St) (st : St n s.heap)
    (go : ∀ g', Heap.ExtBut it s.heap g' → Q none { s with heap := g' }) : wpAny (model prog w) A (Builtin.SmallTypes.nextOrEnd (.ref it)) Q E s := by
  unfold Builtin.SmallTypes.nextOrEnd
  refine wpAny_bind (wpAny_attempt (Dr.done _ _ _ st fun g' e ext he => ?_))
  obtain ⟨o, ho, hc⟩ := he
  exact wpAny_bind (wpAny_isInstance (T := "StopIteration") (b := true) ⟨o, ho, hc⟩ isSubtype_stop (wpAny_pure (go g' ext)))
theorem stop_raised {α : Type} {Q : α → Shared → Prop} (hh : A.handled = none) (go : ∀ g' e, (∀ c o, s.heap.get? c = some o → g'.get? c = some o) → (∃ o, g'.get? e = some o ∧ o.cls = .type "StopIteration") → E (.ref e) { s with heap := g' }) :
    wpAny (model prog w) A (Builtin.SmallTypes.stopIteration (α := α)) Q E s := by
  (show wpAny _ _ (newExc (.type "StopIteration") [] >>= _) _ _ _); refine wpAny_bind ?_; simp only [newExc, newTuple]
  refine wpAny_bind (wpAny_newObj_type (wpAny_bind (m := firstArgMember _ _) (wpAny_of_eq (a := Value.none) (by first | rfl | (simp only [firstArgMember]; rfl)) (wpAny_newObj_type ?_ (by size_fits)))) (by size_fits))
  simp only [raiseNew]; refine wpAny_bind (wpAny_handled ?_); rw [hh]; refine wpAny_bind (wpAny_pure (wpAny_throw ?_))
  exact go _ _ (fun c o e => Heap.get?_push_of_some _ (Heap.get?_push_of_some _ e)) ⟨_, Heap.get?_push_size _ rfl, rfl⟩
theorem zs_next (hh : A.handled = none) {z TI TO i1 i2 : Addr} {fp1 fp2 : List Addr} {n i : Nat} {Pa Pb : Nat → Value → Prop} {Sa Sb : Nat → Heap → Prop} {a b : Value} {Q : Value → Shared → Prop} (S : ZipSep2 z TI TO i1 i2 fp1 fp2)
    (Da : Draws prog w A i1 fp1 n Pa Sa) (Db : Draws prog w A i2 fp2 n Pb Sb) (hz : SZip s.heap z TI TO .none) (hI : IsTupOf2 s.heap TI (.ref i1) (.ref i2)) (hO : IsTupOf2 s.heap TO a b) (sa : Sa i s.heap) (sb : Sb i s.heap) (le : i ≤ n)
    (goes : i < n → ∀ x y g' tk, Pa i x → Pb i y → SZip g' z TI TO (rawInt s.heap.objs.size) → IsTupOf2 g' TO x y → Sa (i + 1) g' → Sb (i + 1) g' → IsTupOf2 g' s.heap.objs.size x y → g'.objs.size = s.heap.objs.size + 1 →
      (∀ c o, c ≠ z → c ≠ TO → c ≠ i1 → c ≠ i2 → s.heap.get? c = some o → g'.get? c = some o) → Q (.ref s.heap.objs.size) { s with heap := g', toks := tk })
    (ends : i = n → ∀ g' tk e, (∀ c o, c ≠ z → c ≠ TO → c ≠ i1 → c ≠ i2 → s.heap.get? c = some o → g'.get? c = some o) → (∃ o, g'.get? e = some o ∧ o.cls = .type "StopIteration") → E (.ref e) { s with heap := g', toks := tk }) :
    wpAny (model prog w) A (Builtin.«zip.__next__» ⟨[.ref z], []⟩) (fun fin s' => ∃ v, fin = .done (.ret v) ∧ Q v s') E s := by
  obtain ⟨hp, gs, dr, tk0, os⟩ := s
  (show wpAny _ _ (field (.ref z) 2 >>= _) _ _ _); refine wpAny_bind (wpAny_field hz rfl (x := .bool true) rfl ?_)
  (show wpAny _ _ (field (.ref z) 3 >>= _) _ _ _); refine wpAny_bind (wpAny_field hz rfl (x := .ref TI) rfl (wpAny_bind (wpAny_seqItems hI rfl ?_)))
  (show wpAny _ _ (Builtin.SmallTypes.ownedTupleIsFree (.ref z) >>= _) _ _ _); refine wpAny_bind ?_; unfold Builtin.SmallTypes.ownedTupleIsFree
  refine wpAny_bind (wpAny_field hz rfl (x := .none) rfl (wpAny_pure ?_)); simp only [if_true]; refine wpAny_bind (wpAny_rule (wpAny_bind (wpAny_field hz rfl (x := .ref TO) rfl ?_)))
  refine wpAny_bind (wpAny_setField_rec hz (by simp) fun g0 hz0 k0 => ?_)
  replace hz0 : SZip g0 z TI TO .ellipsis := hz0; replace k0 : Heap.SameBut z hp g0 := k0
  refine wpAny_bind ?_; simp only [List.zipIdx_cons, List.zipIdx_nil, List.forIn_cons, List.forIn_nil]; refine wpAny_bind (wpAny_bind (wpAny_onRaise ?_))
  (show wpAny _ _ (Builtin.SmallTypes.nextOrEnd (.ref i1)) _ _ ⟨g0, gs, dr, tk0, os⟩)
  rcases Nat.lt_or_ge i n with lt | ge
  · refine draw_some Da lt (Da.over sa k0 S.zf1) fun x p1 tk1 hx sn1 k1 => ?_
    have u1 : IsTupOf2 p1 TO a b := k1.extBut _ _ S.Ti1 (k0.extBut _ _ S.TOz hO)
    refine wpAny_bind (wpAny_seqItems (s := ⟨p1, gs, dr, tk1, os⟩) u1 rfl (wpAny_bind (updateSeq_IsTupOf2 (s := ⟨p1, gs, dr, tk1, os⟩) u1 fun g1 t1 m1 => wpAny_bind (wpAny_letGo (wpAny_pure ?_)))))
    replace t1 : IsTupOf2 g1 TO x b := t1; replace m1 : Heap.SameBut TO p1 g1 := m1
    refine wpAny_bind (wpAny_bind (wpAny_onRaise ?_)); (show wpAny _ _ (Builtin.SmallTypes.nextOrEnd (.ref i2)) _ _ ⟨g1, gs, dr, tk1, os⟩)
    refine draw_some Db lt (Db.over (Db.over (Db.over sb k0 S.zf2) k1 S.sep1_2) m1 S.Tf2) fun y p2 tk2 hy sn2 k2 => ?_
    replace k2 : Heap.SameBut i2 g1 p2 := k2
    have u2 : IsTupOf2 p2 TO x b := k2.extBut _ _ S.Ti2 t1
    refine wpAny_bind (wpAny_seqItems (s := ⟨p2, gs, dr, tk2, os⟩) u2 rfl (wpAny_bind (updateSeq_IsTupOf2 (s := ⟨p2, gs, dr, tk2, os⟩) u2 fun g2 t2 m2 => wpAny_bind (wpAny_letGo (wpAny_pure (wpAny_pure ?_))))))
    replace t2 : IsTupOf2 g2 TO x y := t2; replace m2 : Heap.SameBut TO p2 g2 := m2
    refine wpAny_bind (wpAny_seqItems (s := ⟨g2, gs, dr, tk2, os⟩) t2 rfl (wpAny_bind (wpAny_newTuple ?_)))
    have size2 : g2.objs.size = hp.objs.size := by rw [m2.1, k2.1, m1.1, k1.1, k0.1]
    have zz : SZip g2 z TI TO .ellipsis := m2.extBut _ _ S.TOz.symm (k2.extBut _ _ S.zi2 (m1.extBut _ _ S.TOz.symm (k1.extBut _ _ S.zi1 hz0)))
    have stay : ∀ c o, c ≠ z → c ≠ TO → c ≠ i1 → c ≠ i2 → hp.get? c = some o → g2.get? c = some o := fun c o cz cT c1 c2 e => m2.extBut _ _ cT (k2.extBut _ _ c2 (m1.extBut _ _ cT (k1.extBut _ _ c1 (k0.extBut _ _ cz e))))
    have na : Sa (i + 1) g2 := Da.over (Da.over (Da.over sn1 m1 S.Tf1) k2 S.sep2_1) m2 S.Tf1
    have nb : Sb (i + 1) g2 := Db.over sn2 m2 S.Tf2
    have zl : z < g2.objs.size := Heap.lt_size zz
    (show wpAny _ _ (Builtin.SmallTypes.ownedTupleHandOut (.ref z) (.ref g2.objs.size) >>= _) _ _ ⟨g2.push { cls := .type "tuple", data := .seq #[x, y] }, gs, dr, tk2, os⟩); refine wpAny_bind ?_; unfold Builtin.SmallTypes.ownedTupleHandOut
    have z3 : SZip (g2.push { cls := .type "tuple", data := .seq #[x, y] }) z TI TO .ellipsis := Heap.get?_push_of_some _ zz
    refine wpAny_bind (wpAny_setField_rec z3 (by simp) fun g4 z4 k4 => ?_)
    replace z4 : SZip g4 z TI TO (rawInt g2.objs.size) := z4
    refine wpAny_setField_rec z4 (by simp) fun g5 z5 k5 => ?_
    replace z5 : SZip g5 z TI TO (rawInt g2.objs.size) := z5; replace k4 : Heap.SameBut z (g2.push { cls := .type "tuple", data := .seq #[x, y] }) g4 := k4; replace k5 : Heap.SameBut z g4 g5 := k5
    have up5 : ∀ c o, c ≠ z → g2.get? c = some o → g5.get? c = some o := fun c o cz e => k5.extBut _ _ cz (k4.extBut _ _ cz (Heap.get?_push_of_some _ e))
    have t5 : IsTupOf2 g5 g2.objs.size x y := k5.extBut _ _ (Nat.ne_of_gt zl) (k4.extBut _ _ (Nat.ne_of_gt zl) (Heap.get?_push_size _ rfl))
    have size5 : g5.objs.size = g2.objs.size + 1 := by rw [k5.1, k4.1, Heap.size_push]
    rw [size2] at z5 t5 size5
    refine wpAny_pure ⟨_, rfl, ?_⟩; (show Q (.ref g2.objs.size) ⟨g5, gs, dr, tk2, os⟩); rw [size2]
    exact goes lt x y g5 tk2 hx hy z5 (up5 _ _ S.TOz t2) (Da.frame _ _ _ na fun c hc o e => up5 c o (fun q => S.zf1 (q ▸ hc)) e) (Db.frame _ _ _ nb fun c hc o e => up5 c o (fun q => S.zf2 (q ▸ hc)) e) t5 size5 fun c o cz cT c1 c2 e => up5 c o cz (stay c o cz cT c1 c2 e)
  · have ei : i = n := Nat.le_antisymm le ge
    subst ei
    refine draw_none Da (Da.over sa k0 S.zf1) fun g1 x1 => ?_
    replace x1 : Heap.ExtBut i1 g0 g1 := x1
    have z1 : SZip g1 z TI TO .ellipsis := x1 _ _ S.zi1 hz0
    refine wpAny_bind (wpAny_setField_rec (s := ⟨g1, gs, dr, tk0, os⟩) z1 (by simp) fun g2 z2 k2 => ?_)
    replace k2 : Heap.SameBut z g1 g2 := k2
    refine wpAny_bind ?_
    (show wpAny _ _ (forIn _ _ _ >>= _) _ _ ⟨g2, gs, dr, tk0, os⟩)
    simp only [List.drop_succ_cons, List.drop_zero, List.zipIdx_cons, List.zipIdx_nil, List.forIn_cons, List.forIn_nil]
    refine wpAny_bind (wpAny_bind (wpAny_bind (draw_none Db (s := ⟨g2, gs, dr, tk0, os⟩) (Db.frame _ _ _ sb fun c hc o e => ?_) fun g3 x3 => ?_)))
    · have cz : c ≠ z := fun q => S.zf2 (q ▸ hc)
      exact k2.extBut _ _ cz (x1 _ _ (fun q => S.sep1_2 (q ▸ hc)) (k0.extBut _ _ cz e))
    simp only [Option.isSome_none, Bool.false_eq_true, if_false]
    refine wpAny_pure (wpAny_pure (wpAny_bind (wpAny_rule (stop_raised (s := ⟨g3, gs, dr, tk0, os⟩) hh fun g4 e x4 he => ?_))))
    exact ends rfl g4 tk0 e (fun c o cz _ c1 c2 q => x4 _ _ (x3 _ _ c2 (k2.extBut _ _ cz (x1 _ _ c1 (k0.extBut _ _ cz q))))) he
theorem sz_type {z TI TO : Addr} {f0 : Value} (hz : SZip s.heap z TI TO f0) : s.TypeIs (.ref z) "zip" := ⟨_, hz, rfl⟩
theorem zs_pyNext (hh : A.handled = none) {z TI TO i1 i2 : Addr} {fp1 fp2 : List Addr} {n i : Nat} {Pa Pb : Nat → Value → Prop} {Sa Sb : Nat → Heap → Prop} {a b : Value} {Q : Option Value → Shared → Prop} (S : ZipSep2 z TI TO i1 i2 fp1 fp2)
    (Da : Draws prog w A.in1 i1 fp1 n Pa Sa) (Db : Draws prog w A.in1 i2 fp2 n Pb Sb) (hz : SZip s.heap z TI TO .none) (hI : IsTupOf2 s.heap TI (.ref i1) (.ref i2)) (hO : IsTupOf2 s.heap TO a b) (sa : Sa i s.heap) (sb : Sb i s.heap) (le : i ≤ n)
    (goes : i < n → ∀ x y g' tk, Pa i x → Pb i y → SZip g' z TI TO (rawInt s.heap.objs.size) → IsTupOf2 g' TO x y → Sa (i + 1) g' → Sb (i + 1) g' → IsTupOf2 g' s.heap.objs.size x y → g'.objs.size = s.heap.objs.size + 1 →
      (∀ c o, c ≠ z → c ≠ TO → c ≠ i1 → c ≠ i2 → s.heap.get? c = some o → g'.get? c = some o) → Q (some (.ref s.heap.objs.size)) { s with heap := g', toks := tk })
    (ends : i = n → ∀ g' tk, (∀ c o, c ≠ z → c ≠ TO → c ≠ i1 → c ≠ i2 → s.heap.get? c = some o → g'.get? c = some o) → Q none { s with heap := g', toks := tk }) :
    wpAny (model prog w) A (pyNext (.ref z)) Q E s := by
  unfold pyNext
  refine wpAny_bind (wpAny_attempt (wpAny_callSpecial?_slot (name := Str.ofString "__next__") (sz_type hz) F.slot_zip_next (wpAny_call_entry F.slot_zip_next (sz_type hz) F.entry_zip_next (zs_next (A := A.in1) (show A.in1.handled = none from hh) S Da Db hz hI hO sa sb le (fun lt x y g' tk p1 p2 p3 p4 p5 p6 p7 p8 p9 => wpAny_pure (goes lt x y g' tk p1 p2 p3 p4 p5 p6 p7 p8 p9)) fun e1 g' tk e k he => ?_) (F.args_zip_next_1 _))))
  obtain ⟨o, ho, hc⟩ := he
  exact wpAny_bind (wpAny_isInstance (T := "StopIteration") (b := true) ⟨o, ho, hc⟩ isSubtype_stop (wpAny_pure (ends e1 g' tk k)))
theorem zs_go {elts : List Expr} {k1} {pos : Pos} {z TI TO T : Addr} {Q : Unit → Shared → Prop} (hz : SZip s.heap z TI TO (rawInt T)) (go : ∀ g', SZip g' z TI TO .none → Heap.SameBut z s.heap g' → Q () { s with heap := g' }) :
    wpAny (model prog w) A (letOwnedTupleGo (.Tuple elts k1 pos) (.ref z) (.ref T)) Q E s := by
  unfold letOwnedTupleGo
  refine wpAny_bind (wpAny_load hz ?_)
  show wpAny _ _ (if (["enumerate", "zip", "dict_itemiterator", "dict_reverseitemiterator", "odict_iterator", "itertools.zip_longest", "itertools.pairwise"].contains "zip" && (#[rawInt T, .bool false, .bool true, .ref TI, .ref TO] : Array Value)[0]? == some (rawInt T)) = true then _ else _) Q E s
  rw [if_pos (by simp)]; refine wpAny_bind (wpAny_rule ?_); (show wpAny _ _ (setField (.ref z) 0 .none) Q E s)
  exact wpAny_setField_rec hz (by simp) fun g' z' k' => go g' z' k'
theorem zs_iter {z TI TO : Addr} {f0 : Value} {Q : Value → Shared → Prop} (hz : SZip s.heap z TI TO f0) (go : Q (.ref z) s) : wpAny (model prog w) A (pyIter (.ref z)) Q E s := by
  refine wpAny_pyIter_slot (sz_type hz) F.slot_zip_iter (wpAny_call_entry F.slot_zip_iter (sz_type hz) F.entry_zip_iter ?_ (F.args_zip_iter_1 _))
  (show wpAny _ _ (ret (.ref z)) _ _ s); exact wpAny_pure ⟨_, rfl, "zip", _, sz_type hz, F.slot_zip_next.lookup, go⟩
end
end My

namespace My
open PySem PySem.Spec PyProof.Rows L2 Pre
open Sem (wp)
theorem zs_tc (a b : Value) : checkTypeCall "zip" ⟨[a, b], [("strict", .bool true)]⟩ = pure () := by kernel_rfl
theorem zs_nc (a b : Value) : checkBuiltinCall "zip.__new__" ⟨[.type "zip", a, b], [("strict", .bool true)]⟩ = pure () := by kernel_rfl
theorem zs_ao (a b c : Value) : argsOk "object.__init__" ⟨[a, b, c], [("strict", .bool true)]⟩ := by
  unfold argsOk; rw [signature?_of (id := "object.__init__") (n := ['_', '_', 't', 'i', 'n', 'i', '_', '_']) (o := ['t', 'c', 'e', 'j', 'b', 'o']) (by kernel_rfl) PySem.F.owner_object]; kernel_rfl
section
variable {prog : Program} {w : World} {A : Around} {E : Value → Shared → Prop} {s : Shared}
theorem zs_init (v a b : Value) : Meets (Builtin.«object.__init__» ⟨[v, a, b], [("strict", .bool true)]⟩) (fun _ R s => s.TypeIs v "zip" ∧ R (.ok (.ret .none)) s) := by
  refine Meets.of_wp fun prog w A R s hs => ?_
  obtain ⟨hT, hq⟩ := hs; have hl := PySem.F.called_zip.init.lookup; have hm := PySem.F.called_zip.made
  repeat (any_goals (first | assumption | wp_step))
  exact ⟨_, rfl, hq⟩
theorem zs_call {a b : Value} {S : PySem.Spec} {Q : Value → Shared → Prop} (g : Meets (Builtin.«zip.__new__» ⟨[.type "zip", a, b], [("strict", .bool true)]⟩) S) (h : S A.in1 (wants (fun v s' => s'.TypeIs v "zip" ∧ Q v s') E) s) :
    wpAny (model prog w) A (call (.type "zip") [a, b] [("strict", .bool true)]) Q E s := by
  have ft := PySem.F.called_zip
  obtain ⟨c, tl, hmro⟩ := ft.mro
  have hmade := ft.made
  have hsub := ft.sub
  refine wpAny_call (codeAny_of_tree ?_)
  show wpAny _ _ (callAny (.type "zip") _) _ _ _
  refine wpAny_pure ⟨Code.quiet_builtin _ (by decide +kernel), codeAny_builtin PySem.F.entry_type_call ?_⟩
  rw [Around.under_plain (weight_type_call_type "zip" [a, b] [("strict", .bool true)]) (units_type_call_type "zip" [a, b] [("strict", .bool true)])]
  have h1 := ft.notType
  have h2 := ft.canCreate
  have htc := zs_tc a b
  repeat (any_goals (first | assumption | wp_step))
  refine codeAny_mono (codeAny_call_builtin ft.plain PySem.F.entry_zip_new (wpAny_of_eq (zs_nc a b) (g prog w A.in1 _ s h))) fun r s₁ hr => ?_
  cases r with
  | error e => exact hr
  | ok fl =>
    cases fl with
    | ret obj =>
      obtain ⟨hT, hq⟩ := hr
      have hli := ft.init.lookup
      have hbi := ft.init.bind obj
      repeat (any_goals (first | assumption | wp_step))
      refine codeAny_mono (codeAny_call_builtin ft.init.plain PySem.F.entry_object_init (ft.init.check _ _ _ _ _ _ _ _ hT (zs_ao obj a b) (zs_init obj a b prog w A.in1 _ s₁ (show (fun (_ : Around) (R : Except Value Flow → Shared → Prop) (s : Shared) => s.TypeIs obj "zip" ∧ R (.ok (.ret .none)) s) A.in1 (wants (fun r s₂ => r = .none ∧ Q obj s₂) E) s₁ from ⟨hT, rfl, hq⟩)))) fun r₂ s₂ hr₂ => ?_
      cases r₂ with
      | error e => exact hr₂
      | ok fl₂ =>
        cases fl₂ with
        | ret r =>
          obtain ⟨rfl, hq⟩ := hr₂
          repeat (any_goals (first | assumption | wp_step))
        | _ => exact hr₂.elim
    | _ => exact hr.elim
end
abbrev zq1 (h : Heap) (a : Addr) : Heap := h.push { cls := .type "tuple_iterator", data := .fields #[.ref a, .int 0 0] }
abbrev zq2 (h : Heap) (a b : Addr) : Heap := (zq1 h a).push { cls := .type "list_iterator", data := .fields #[.ref b, .int 0 0] }
abbrev zq3 (h : Heap) (a b : Addr) : Heap := (zq2 h a b).push { cls := .type "tuple", data := .seq #[.ref h.objs.size, .ref (zq1 h a).objs.size] }
abbrev zq4 (h : Heap) (a b : Addr) : Heap := (zq3 h a b).push { cls := .type "tuple", data := .seq #[.none, .none] }
abbrev zq5 (h : Heap) (a b : Addr) : Heap := (zq4 h a b).push { cls := .type "zip", data := .fields #[.none, .bool false, .bool true, .ref (zq2 h a b).objs.size, .ref (zq3 h a b).objs.size] }
theorem zs_new (a b : Addr) (xs ys : Array Value) :
    Meets (Builtin.«zip.__new__» ⟨[.type "zip", .ref a, .ref b], [("strict", .bool true)]⟩) (fun _ R s => s.heap.IsTuple a xs ∧ s.heap.IsList b ys ∧
      R (.ok (.ret (.ref (zq4 s.heap a b).objs.size))) { s with heap := zq5 s.heap a b }) :=
  .of_wp fun prog w A R s h => by
    obtain ⟨hp, g, d, tk, os⟩ := s; obtain ⟨ha, hb, h⟩ := h; have hsub := sub_zip
    have hA : Heap.IsTuple (Shared.heap ⟨hp, g, d, tk, os⟩) a xs := ha; have hB : Heap.IsList (Shared.heap ⟨hp.push { cls := .type "tuple_iterator", data := .fields #[.ref a, .int 0 0] }, g, d, tk, os⟩) b ys := Heap.IsList.push hb _
    wp_walk using wpAny_pyIter_tuple hA, wpAny_pyIter_list hB
    exact ⟨_, rfl, h⟩
end My

namespace My
open PySem PySem.Spec PyProof.Rows L2 Pre
open Sem (wp)
section
variable {prog : Program} {w : World} {A : Around} {E : Value → Shared → Prop} {s : Shared}
theorem zs_made {a b : Addr} {xs ys : Array Value} {Q : Value → Shared → Prop} (ha : s.heap.IsTuple a xs) (hb : s.heap.IsList b ys)
    (go : ∀ g', SZip g' (s.heap.objs.size + 4) (s.heap.objs.size + 2) (s.heap.objs.size + 3) .none → IsTupOf2 g' (s.heap.objs.size + 2) (.ref s.heap.objs.size) (.ref (s.heap.objs.size + 1)) → IsTupOf2 g' (s.heap.objs.size + 3) .none .none →
      g'.IsTupleIter s.heap.objs.size a 0 → g'.IsListIter (s.heap.objs.size + 1) b 0 → (∀ c o, s.heap.get? c = some o → g'.get? c = some o) → Q (.ref (s.heap.objs.size + 4)) { s with heap := g' }) :
    wpAny (model prog w) A (call (.type "zip") [.ref a, .ref b] [("strict", .bool true)]) Q E s := by
  refine zs_call (zs_new a b xs ys) ⟨ha, hb, ?_⟩
  have n1 : (zq1 s.heap a).objs.size = s.heap.objs.size + 1 := Heap.size_push ..
  have n2 : (zq2 s.heap a b).objs.size = s.heap.objs.size + 2 := by rw [Heap.size_push, n1]
  have n3 : (zq3 s.heap a b).objs.size = s.heap.objs.size + 3 := by rw [Heap.size_push, n2]
  have n4 : (zq4 s.heap a b).objs.size = s.heap.objs.size + 4 := by rw [Heap.size_push, n3]
  have p : ∀ {h : Heap} {o o' : Obj} {c : Addr}, h.get? c = some o → (h.push o').get? c = some o := fun e => Heap.get?_push_of_some _ e
  have q5 : (zq5 s.heap a b).get? (zq4 s.heap a b).objs.size = some _ := Heap.get?_push_size _ rfl
  have q4 : (zq5 s.heap a b).get? (zq3 s.heap a b).objs.size = some _ := p (Heap.get?_push_size _ rfl)
  have q3 : (zq5 s.heap a b).get? (zq2 s.heap a b).objs.size = some _ := p (p (Heap.get?_push_size _ rfl))
  have q2 : (zq5 s.heap a b).get? (zq1 s.heap a).objs.size = some _ := p (p (p (Heap.get?_push_size _ rfl)))
  have q1 : (zq5 s.heap a b).get? s.heap.objs.size = some _ := p (p (p (p (Heap.get?_push_size _ rfl))))
  show _ ∧ _; rw [n2, n3, n4] at q5; rw [n1, n2] at q3; rw [n3] at q4; rw [n1] at q2; rw [n4]
  exact ⟨⟨_, q5, rfl⟩, go _ q5 q3 q4 ⟨_, q1, rfl, rfl⟩ ⟨_, q2, rfl, rfl⟩ fun c o x => p (p (p (p (p x))))⟩
end
/-- the tuple at a and the list at b, of one length, side by side -/
def ItzS (K : PySem.W.Frag) (a b : Addr) : It :=
  ⟨fun i H => ∃ (xs ys : List V), SqT K H a xs ∧ SqL K H b ys ∧ xs.length = ys.length ∧ i < xs.length,
    fun i H v H' => ∃ T x y, v = .ref T ∧ H T = none ∧ H' = upd H T (.tup [x, y]) ∧ (∀ xs, SqT K H a xs → xs[i]? = some x) ∧ ∀ ys, SqL K H b ys → ys[i]? = some y,
    fun i H => ∃ xs ys : List V, SqT K H a xs ∧ SqL K H b ys ∧ xs.length = i ∧ ys.length = i⟩
theorem turn_zs {P : Program} {w : World} {K : PySem.W.Frag} {elts : List Expr} {kk : Nat} {tpos : Pos} {a b z TI TO i1 i2 : Addr} (D : ZipApart z TI TO i1 i2 a b) :
    Turn P w K (.Tuple elts kk tpos) (ItzS K a b) [z, TI, TO, i1, i2] z (fun i h => SZip h z TI TO .none ∧ IsTupOf2 h TI (.ref i1) (.ref i2) ∧ (∃ x y, IsTupOf2 h TO x y) ∧ h.IsTupleIter i1 a i ∧ h.IsListIter i2 b i) := by
  have Sp : ZipSep2 z TI TO i1 i2 [i1, a] [i2, b] := ⟨D.TIz, D.TOz, D.TITO, D.TIi1, by simp, by simp [D.i1z.symm, D.l1z.symm], by simp [D.TOi1, D.l1TO.symm], D.TIi2, by simp, by simp [D.i2z.symm, D.l2z.symm], by simp [D.TOi2, D.l2TO.symm], by simp [D.i12, D.l2i1.symm], by simp [D.i12.symm, D.l1i2.symm]⟩
  refine ⟨by simp, fun i h st c hc => ?_, fun i h h' st k => ?_, ?_, ?_, fun A i s Q E st h => zs_iter st.1 h⟩
  · obtain ⟨hz, hTI, ⟨x, y, hTO⟩, ⟨o1, e1, _, d1⟩, ⟨o2, e2, _, d2⟩⟩ := st
    have e' : c = z ∨ c = TI ∨ c = TO ∨ c = i1 ∨ c = i2 := by simpa using hc
    rcases e' with q | q | q | q | q <;> rw [q]
    · exact ⟨_, hz, fun v q => nomatch q⟩
    · exact ⟨_, hTI, fun v q => nomatch q⟩
    · exact ⟨_, hTO, fun v q => nomatch q⟩
    · exact ⟨o1, e1, fun v q => by rw [d1] at q; cases q⟩
    · exact ⟨o2, e2, fun v q => by rw [d2] at q; cases q⟩
  · obtain ⟨hz, hTI, ⟨x, y, hTO⟩, h1, h2⟩ := st
    have kz := k z (by simp); have kI := k TI (by simp); have kO := k TO (by simp)
    exact ⟨kz _ hz, kI _ hTI, ⟨x, y, kO _ hTO⟩, h1.at fun o q => k i1 (by simp) o q, h2.at fun o q => k i2 (by simp) o q⟩
  · intro X hP hw hK hc i pins s σ H E I hf st hg
    subst hP; subst hw; subst hK
    obtain ⟨hz, hTI, ⟨x0, y0, hTO⟩, h1, h2⟩ := st; obtain ⟨xs, ys, hqx, hqy, hl, hi⟩ := hg
    obtain ⟨its, rv, p, _⟩ := I.tuple hqx; obtain ⟨its2, rv2, p2, _⟩ := I.list hqy
    have l1 := rv.length; have l2 := rv2.length
    have hzl : z < s.heap.objs.size := Heap.lt_size hz
    have hh : X.A.handled = none := I.ok.hd hc
    have Da := Draws.tuple (prog := X.prog) (w := X.w) (A := X.A.in1) (show X.A.in1.handled = none from hh) i1 a D.l1i1 its.toArray
    have Db0 := Draws.list (prog := X.prog) (w := X.w) (A := X.A.in1) (show X.A.in1.handled = none from hh) i2 b D.l2i2 its2.toArray
    have esz : its2.toArray.size = its.toArray.size := by simp; omega
    have Db : Draws X.prog X.w X.A.in1 i2 [i2, b] its.toArray.size (fun j v => its2.toArray[j]? = some v) (fun j h => h.IsListIter i2 b j ∧ h.IsList b its2.toArray) := by rw [← esz]; exact Db0
    have hin : i < its.toArray.size := by simp; omega
    refine zs_pyNext (s := s) hh Sp Da Db hz hTI hTO ⟨h1, p⟩ ⟨h2, p2.isList⟩ (Nat.le_of_lt hin) (fun _ u u2 h' tk px py z' TO' sa' sb' hT hsz hk => ?_) (fun e => absurd e (Nat.ne_of_lt hin))
    have hu : its[i]? = some u := by simpa using px
    have hu2 : its2[i]? = some u2 := by simpa using py
    obtain ⟨x, hx⟩ : ∃ x, xs[i]? = some x := ⟨_, List.getElem?_eq_getElem hi⟩
    obtain ⟨y, hy⟩ : ∃ y, ys[i]? = some y := ⟨_, List.getElem?_eq_getElem (hl ▸ hi)⟩
    obtain ⟨u', hu', ru⟩ := rv.get hx; obtain ⟨u2', hu2', ru2⟩ := rv2.get hy
    rw [hu] at hu'; cases hu'; rw [hu2] at hu2'; cases hu2'
    refine ⟨_, rfl, zs_go (s := { s with heap := h', toks := tk }) z' fun h'' z'' sb => ?_⟩
    have hT2 : h''.get? s.heap.objs.size = some { cls := .type "tuple", data := .seq #[u, u2] } := (sb.2 _ (Nat.ne_of_gt hzl)).trans hT
    have new : ObjOk X.prog X.w (upd H s.heap.objs.size (.tup [x, y])) h'' s.heap.objs.size (.tup [x, y]) := ⟨by show 2 ≤ sizeLine; decide, [u, u2], .cons ru (.cons ru2 .nil), ⟨_, hT2, rfl, _, rfl⟩⟩
    have I1 : Inv X pins σ (upd H s.heap.objs.size (.tup [x, y])) { s with heap := h'', toks := tk } :=
      I.turnedNew (t' := tk) (ch := [z, TI, TO, i1, i2]) (fun c o hb q => (sb.2 c (fun q' => hb (by simp [q']))).trans (hk c o (fun q' => hb (by simp [q'])) (fun q' => hb (by simp [q'])) (fun q' => hb (by simp [q'])) (fun q' => hb (by simp [q'])) q)) hf (Nat.le_refl _) new
    refine ⟨.ref s.heap.objs.size, _, I1, rfl, ⟨_, x, y, rfl, I.hok.fresh (Nat.le_refl _), rfl, fun l hl => by rw [I.tuple_inj hl hqx]; exact hx, fun l hl => by rw [I.list_inj hl hqy]; exact hy⟩, ⟨z'', (sb.2 _ D.TIz).trans (hk _ _ D.TIz D.TITO D.TIi1 D.TIi2 hTI), ⟨u, u2, (sb.2 _ D.TOz).trans TO'⟩, sa'.1.at fun o q => (sb.2 _ D.i1z).trans q, sb'.1.at fun o q => (sb.2 _ D.i2z).trans q⟩, fun c hcm => ?_⟩
    have hlt : c < s.heap.objs.size := by
      have e' : c = z ∨ c = TI ∨ c = TO ∨ c = i1 ∨ c = i2 := by simpa using hcm
      rcases e' with q | q | q | q | q <;> rw [q]
      · exact hzl
      · exact Heap.lt_size hTI
      · exact Heap.lt_size hTO
      · obtain ⟨_, e1, _⟩ := h1; exact Heap.lt_size e1
      · obtain ⟨_, e2, _⟩ := h2; exact Heap.lt_size e2
    rw [upd_ne (Nat.ne_of_lt hlt)]; exact (hf c hcm).1
  · intro X hP hw hK hc i pins s σ H E I hf st hg
    subst hP; subst hw; subst hK
    obtain ⟨hz, hTI, ⟨x0, y0, hTO⟩, h1, h2⟩ := st; obtain ⟨xs, ys, hqx, hqy, hl, hl2⟩ := hg
    obtain ⟨its, rv, p, _⟩ := I.tuple hqx; obtain ⟨its2, rv2, p2, _⟩ := I.list hqy
    have l1 := rv.length; have l2 := rv2.length
    have hh : X.A.handled = none := I.ok.hd hc
    have Da := Draws.tuple (prog := X.prog) (w := X.w) (A := X.A.in1) (show X.A.in1.handled = none from hh) i1 a D.l1i1 its.toArray
    have Db0 := Draws.list (prog := X.prog) (w := X.w) (A := X.A.in1) (show X.A.in1.handled = none from hh) i2 b D.l2i2 its2.toArray
    have esz : its2.toArray.size = its.toArray.size := by simp; omega
    have Db : Draws X.prog X.w X.A.in1 i2 [i2, b] its.toArray.size (fun j v => its2.toArray[j]? = some v) (fun j h => h.IsListIter i2 b j ∧ h.IsList b its2.toArray) := by rw [← esz]; exact Db0
    have hin : i = its.toArray.size := by simp; omega
    refine zs_pyNext (s := s) hh Sp Da Db hz hTI hTO ⟨h1, p⟩ ⟨h2, p2.isList⟩ (Nat.le_of_eq hin) (fun lt => absurd hin (Nat.ne_of_lt lt)) (fun _ h' tk hk => ⟨rfl, I.turnedL (t' := tk) (ch := [z, TI, TO, i1, i2]) (fun c o hb q => hk c o (fun q' => hb (by simp [q'])) (fun q' => hb (by simp [q'])) (fun q' => hb (by simp [q'])) (fun q' => hb (by simp [q'])) q) hf⟩)
section
variable {M : Model} {A : Around} {E : Value → Shared → Prop} {s : Shared} {env : Env}
theorem tykw {pos : Pos} {T : String} {e : Expr} {rest : List Expr} {kws : List Keyword} {Q : Value → Shared → Prop}
    (h : wpAny M A (spliced (backTo pos (starEach (e :: rest) env))) (fun vs s1 => wpAny M A (evalAll ((backToKw pos (keywordEach kws env)).map (·.2))) (fun ws s2 => wpAny M A (call (.type T) vs (((backToKw pos (keywordEach kws env)).filterMap (·.1)).zip ws)) Q E s2) E s1) E s)
    (he : backTo pos (starEach (e :: rest) env) = (false, eval e env) :: backTo pos (starEach rest env) := by rfl) (hp : (backTo pos (starEach (e :: rest) env)).any (·.1) = false := by rfl)
    (ha : (backToKw pos (keywordEach kws env)).all (·.1.isSome) = true := by rfl) (hk : (backToKw pos (keywordEach kws env)).any (·.1.isNone) = false := by rfl) : wpAny M A (callWith pos (.type T) [] (backTo pos (starEach (e :: rest) env)) (backToKw pos (keywordEach kws env))) Q E s := by
  unfold callWith
  refine wpAny_bind (wpAny_holding (wpAny_mono (Q := fun a s1 => wpAny M A (call (.type T) ([] ++ a.pos) a.kw) Q E s1) ?_ (fun a s1 h1 => wpAny_bind (wpAny_standAt ?_)) fun _ _ z => z))
  · rw [he] at h ⊢; exact evalArgs_kwB ha h
  · simp only [hp, hk, Bool.or_false]; refine wpAny_bind (wpAny_pure ?_)
    exact wpAny_bind (wpAny_mono h1 (fun r s2 hr => wpAny_bind (wpAny_holding (wpAny_point (wpAny_pure hr)))) fun _ _ z => z)
end
def iZipS (K : PySem.W.Frag) (ta tk : TA) : TI := fun σ H R => ta σ H fun vs H1 => tk σ H1 fun zs H2 => zs = [.bl true] ∧ ∃ a b xs ys, vs = [.ref a, .ref b] ∧ SqT K H2 a xs ∧ SqL K H2 b ys ∧ R (ItzS K a b) H2
theorem pi_zs {X : Cx} {e e2 : Expr} {kws : List Keyword} {ta tk : TA} {p pos tpos : Pos} {elts : List Expr} {kk : Nat} (hg : Gl X "zip") (hm : X.mg "zip" = none) (ha : PA X [e, e2] ta) (hk : PK X kws tk)
    (he : backTo pos (starEach [e, e2] X.env) = (false, eval e X.env) :: backTo pos (starEach [e2] X.env) := by rfl) (hp : (backTo pos (starEach [e, e2] X.env)).any (·.1) = false := by rfl)
    (hal : (backToKw pos (keywordEach kws X.env)).all (·.1.isSome) = true := by rfl) (hkn : (backToKw pos (keywordEach kws X.env)).any (·.1.isNone) = false := by rfl) (hks : (backToKw pos (keywordEach kws X.env)).filterMap (·.1) = [("strict" : Str)] := by rfl) :
    PI X (.Tuple elts kk tpos) (.Call (.Name "zip" p) [e, e2] kws pos) (iZipS X.K ta tk) := by
  refine ⟨fun pins s σ H R I h => wpAny_Call_Name_kw (ld_blt I hg hm PyProof.Rows.boot_zip (tykw (thn (ha.run pos pins s σ H _ I h) fun us s1 ⟨vs, H1, I1, r1, q1⟩ => thn (hk.run pos pins s1 σ H1 _ I1 q1) fun ws s2 ⟨zs, H2, I2, r2, q2⟩ => ?_) he hp hal hkn))⟩
  rw [hks]; obtain ⟨ez, a, b, xs, ys, ex, hqx, hqy, q⟩ := q2
  subst ez; subst ex
  cases r2 with
  | cons rb rr => cases rr; cases (show _ = Value.bool true from rb); cases r1 with
    | cons r rr => cases rr with
      | cons r' rr =>
        cases rr; cases r; cases r'
        obtain ⟨its, rv, p1, _⟩ := I2.tuple hqx; obtain ⟨its2, rv2, p2, _⟩ := I2.list hqy
        refine zs_made p1 p2.isList fun g' hz hTI hTO h1 h2 hk' => zs_iter hz ?_
        have I3 : Inv X pins σ H2 { s2 with heap := g' } := I2.kept (t' := s2.toks) hk'
        obtain ⟨o1, ho1, _⟩ := id p1
        refine ⟨s2.heap.objs.size + 4, [s2.heap.objs.size + 4, s2.heap.objs.size + 2, s2.heap.objs.size + 3, s2.heap.objs.size, s2.heap.objs.size + 1], _, _, H2, rfl, I3, turn_zs (PySem.W.ktu_apart s2.heap.objs.size a b (Heap.lt_size ho1) p2.lt), ⟨hz, hTI, ⟨_, _, hTO⟩, h1, h2⟩, fun c hcm => ?_, q⟩
        have hle : s2.heap.objs.size ≤ c := by
          have e' : c = s2.heap.objs.size + 4 ∨ c = s2.heap.objs.size + 2 ∨ c = s2.heap.objs.size + 3 ∨ c = s2.heap.objs.size ∨ c = s2.heap.objs.size + 1 := by simpa using hcm
          rcases e' with z | z | z | z | z <;> rw [z] <;> first | exact Nat.le_add_right _ _ | exact Nat.le_refl _
        exact I2.fpOk hle (I2.hok.fresh hle)
theorem walk_zs {K : PySem.W.Frag} {a b : Addr} {xs ys : List V} (hl : xs.length = ys.length) : Walk (ItzS K a b) xs.length (fun H => SqT K H a xs ∧ SqL K H b ys) (YPair (fun i => xs[i]?) (fun i => ys[i]?)) :=
  ⟨fun i _ hi q => ⟨xs, ys, q.1, q.2, hl, hi⟩, fun _ q => ⟨xs, ys, q.1, q.2, rfl, hl.symm⟩, fun i H v H' _ q ⟨T, x, z, h1, h2, h3, h4, h5⟩ => ⟨T, x, z, h1, h2, h3, h4 xs q.1, h5 ys q.2⟩⟩
theorem k_piZS {X : Cx} (K : PySem.W.Frag) (h : X.K = K) {e e2 : Expr} {kws : List Keyword} {ta tk : TA} {p pos tpos : Pos} {elts : List Expr} {kk : Nat} (hg : Gl X "zip") (hm : X.mg "zip" = none) (ha : PA X [e, e2] ta) (hk : PK X kws tk)
    (he : backTo pos (starEach [e, e2] X.env) = (false, eval e X.env) :: backTo pos (starEach [e2] X.env) := by rfl) (hp : (backTo pos (starEach [e, e2] X.env)).any (·.1) = false := by rfl)
    (hal : (backToKw pos (keywordEach kws X.env)).all (·.1.isSome) = true := by rfl) (hkn : (backToKw pos (keywordEach kws X.env)).any (·.1.isNone) = false := by rfl) (hks : (backToKw pos (keywordEach kws X.env)).filterMap (·.1) = [("strict" : Str)] := by rfl) :
    PI X (.Tuple elts kk tpos) (.Call (.Name "zip" p) [e, e2] kws pos) (iZipS K ta tk) := by subst h; exact pi_zs hg hm ha hk he hp hal hkn hks
end My

namespace My
open PySem PySem.Spec PyProof.Rows L2 Pre
open Sem (wp)
/-! ### zip(xs, ys, strict=True) of two lists -/
abbrev zr1 (h : Heap) (a : Addr) : Heap := h.push { cls := .type "list_iterator", data := .fields #[.ref a, .int 0 0] }
abbrev zr2 (h : Heap) (a b : Addr) : Heap := (zr1 h a).push { cls := .type "list_iterator", data := .fields #[.ref b, .int 0 0] }
abbrev zr3 (h : Heap) (a b : Addr) : Heap := (zr2 h a b).push { cls := .type "tuple", data := .seq #[.ref h.objs.size, .ref (zr1 h a).objs.size] }
abbrev zr4 (h : Heap) (a b : Addr) : Heap := (zr3 h a b).push { cls := .type "tuple", data := .seq #[.none, .none] }
abbrev zr5 (h : Heap) (a b : Addr) : Heap := (zr4 h a b).push { cls := .type "zip", data := .fields #[.none, .bool false, .bool true, .ref (zr2 h a b).objs.size, .ref (zr3 h a b).objs.size] }
theorem zl_new (a b : Addr) (xs ys : Array Value) :
    Meets (Builtin.«zip.__new__» ⟨[.type "zip", .ref a, .ref b], [("strict", .bool true)]⟩) (fun _ R s => s.heap.IsList a xs ∧ s.heap.IsList b ys ∧
      R (.ok (.ret (.ref (zr4 s.heap a b).objs.size))) { s with heap := zr5 s.heap a b }) :=
  .of_wp fun prog w A R s h => by
    obtain ⟨hp, g, d, tk, os⟩ := s; obtain ⟨ha, hb, h⟩ := h; have hsub := sub_zip
    have hA : Heap.IsList (Shared.heap ⟨hp, g, d, tk, os⟩) a xs := ha; have hB : Heap.IsList (Shared.heap ⟨hp.push { cls := .type "list_iterator", data := .fields #[.ref a, .int 0 0] }, g, d, tk, os⟩) b ys := Heap.IsList.push hb _
    wp_walk using wpAny_pyIter_list hA, wpAny_pyIter_list hB
    exact ⟨_, rfl, h⟩
section
variable {prog : Program} {w : World} {A : Around} {E : Value → Shared → Prop} {s : Shared}
theorem zl_made {a b : Addr} {xs ys : Array Value} {Q : Value → Shared → Prop} (ha : s.heap.IsList a xs) (hb : s.heap.IsList b ys)
    (go : ∀ g', SZip g' (s.heap.objs.size + 4) (s.heap.objs.size + 2) (s.heap.objs.size + 3) .none → IsTupOf2 g' (s.heap.objs.size + 2) (.ref s.heap.objs.size) (.ref (s.heap.objs.size + 1)) → IsTupOf2 g' (s.heap.objs.size + 3) .none .none →
      g'.IsListIter s.heap.objs.size a 0 → g'.IsListIter (s.heap.objs.size + 1) b 0 → (∀ c o, s.heap.get? c = some o → g'.get? c = some o) → Q (.ref (s.heap.objs.size + 4)) { s with heap := g' }) :
    wpAny (model prog w) A (call (.type "zip") [.ref a, .ref b] [("strict", .bool true)]) Q E s := by
  refine zs_call (zl_new a b xs ys) ⟨ha, hb, ?_⟩
  have n1 : (zr1 s.heap a).objs.size = s.heap.objs.size + 1 := Heap.size_push ..
  have n2 : (zr2 s.heap a b).objs.size = s.heap.objs.size + 2 := by rw [Heap.size_push, n1]
  have n3 : (zr3 s.heap a b).objs.size = s.heap.objs.size + 3 := by rw [Heap.size_push, n2]
  have n4 : (zr4 s.heap a b).objs.size = s.heap.objs.size + 4 := by rw [Heap.size_push, n3]
  have p : ∀ {h : Heap} {o o' : Obj} {c : Addr}, h.get? c = some o → (h.push o').get? c = some o := fun e => Heap.get?_push_of_some _ e
  have q5 : (zr5 s.heap a b).get? (zr4 s.heap a b).objs.size = some _ := Heap.get?_push_size _ rfl
  have q4 : (zr5 s.heap a b).get? (zr3 s.heap a b).objs.size = some _ := p (Heap.get?_push_size _ rfl)
  have q3 : (zr5 s.heap a b).get? (zr2 s.heap a b).objs.size = some _ := p (p (Heap.get?_push_size _ rfl))
  have q2 : (zr5 s.heap a b).get? (zr1 s.heap a).objs.size = some _ := p (p (p (Heap.get?_push_size _ rfl)))
  have q1 : (zr5 s.heap a b).get? s.heap.objs.size = some _ := p (p (p (p (Heap.get?_push_size _ rfl))))
  show _ ∧ _; rw [n2, n3, n4] at q5; rw [n1, n2] at q3; rw [n3] at q4; rw [n1] at q2; rw [n4]
  exact ⟨⟨_, q5, rfl⟩, go _ q5 q3 q4 ⟨_, q1, rfl, rfl⟩ ⟨_, q2, rfl, rfl⟩ fun c o x => p (p (p (p (p x))))⟩
end
/-- the lists at a and b, of one length, side by side -/
def ItzL (K : PySem.W.Frag) (a b : Addr) : It :=
  ⟨fun i H => ∃ (xs ys : List V), SqL K H a xs ∧ SqL K H b ys ∧ xs.length = ys.length ∧ i < xs.length,
    fun i H v H' => ∃ T x y, v = .ref T ∧ H T = none ∧ H' = upd H T (.tup [x, y]) ∧ (∀ xs, SqL K H a xs → xs[i]? = some x) ∧ ∀ ys, SqL K H b ys → ys[i]? = some y,
    fun i H => ∃ xs ys : List V, SqL K H a xs ∧ SqL K H b ys ∧ xs.length = i ∧ ys.length = i⟩
theorem turn_zl {P : Program} {w : World} {K : PySem.W.Frag} {elts : List Expr} {kk : Nat} {tpos : Pos} {a b z TI TO i1 i2 : Addr} (D : ZipApart z TI TO i1 i2 a b) :
    Turn P w K (.Tuple elts kk tpos) (ItzL K a b) [z, TI, TO, i1, i2] z (fun i h => SZip h z TI TO .none ∧ IsTupOf2 h TI (.ref i1) (.ref i2) ∧ (∃ x y, IsTupOf2 h TO x y) ∧ h.IsListIter i1 a i ∧ h.IsListIter i2 b i) := by
  have Sp : ZipSep2 z TI TO i1 i2 [i1, a] [i2, b] := ⟨D.TIz, D.TOz, D.TITO, D.TIi1, by simp, by simp [D.i1z.symm, D.l1z.symm], by simp [D.TOi1, D.l1TO.symm], D.TIi2, by simp, by simp [D.i2z.symm, D.l2z.symm], by simp [D.TOi2, D.l2TO.symm], by simp [D.i12, D.l2i1.symm], by simp [D.i12.symm, D.l1i2.symm]⟩
  refine ⟨by simp, fun i h st c hc => ?_, fun i h h' st k => ?_, ?_, ?_, fun A i s Q E st h => zs_iter st.1 h⟩
  · obtain ⟨hz, hTI, ⟨x, y, hTO⟩, ⟨o1, e1, _, d1⟩, ⟨o2, e2, _, d2⟩⟩ := st
    have e' : c = z ∨ c = TI ∨ c = TO ∨ c = i1 ∨ c = i2 := by simpa using hc
    rcases e' with q | q | q | q | q <;> rw [q]
    · exact ⟨_, hz, fun v q => nomatch q⟩
    · exact ⟨_, hTI, fun v q => nomatch q⟩
    · exact ⟨_, hTO, fun v q => nomatch q⟩
    · exact ⟨o1, e1, fun v q => by rw [d1] at q; cases q⟩
    · exact ⟨o2, e2, fun v q => by rw [d2] at q; cases q⟩
  · obtain ⟨hz, hTI, ⟨x, y, hTO⟩, h1, h2⟩ := st
    have kz := k z (by simp); have kI := k TI (by simp); have kO := k TO (by simp)
    exact ⟨kz _ hz, kI _ hTI, ⟨x, y, kO _ hTO⟩, h1.at fun o q => k i1 (by simp) o q, h2.at fun o q => k i2 (by simp) o q⟩
  · intro X hP hw hK hc i pins s σ H E I hf st hg
    subst hP; subst hw; subst hK
    obtain ⟨hz, hTI, ⟨x0, y0, hTO⟩, h1, h2⟩ := st; obtain ⟨xs, ys, hqx, hqy, hl, hi⟩ := hg
    obtain ⟨its, rv, p, _⟩ := I.list hqx; obtain ⟨its2, rv2, p2, _⟩ := I.list hqy
    have l1 := rv.length; have l2 := rv2.length
    have hzl : z < s.heap.objs.size := Heap.lt_size hz
    have hh : X.A.handled = none := I.ok.hd hc
    have Da := Draws.list (prog := X.prog) (w := X.w) (A := X.A.in1) (show X.A.in1.handled = none from hh) i1 a D.l1i1 its.toArray
    have Db0 := Draws.list (prog := X.prog) (w := X.w) (A := X.A.in1) (show X.A.in1.handled = none from hh) i2 b D.l2i2 its2.toArray
    have esz : its2.toArray.size = its.toArray.size := by simp; omega
    have Db : Draws X.prog X.w X.A.in1 i2 [i2, b] its.toArray.size (fun j v => its2.toArray[j]? = some v) (fun j h => h.IsListIter i2 b j ∧ h.IsList b its2.toArray) := by rw [← esz]; exact Db0
    have hin : i < its.toArray.size := by simp; omega
    refine zs_pyNext (s := s) hh Sp Da Db hz hTI hTO ⟨h1, p.isList⟩ ⟨h2, p2.isList⟩ (Nat.le_of_lt hin) (fun _ u u2 h' tk px py z' TO' sa' sb' hT hsz hk => ?_) (fun e => absurd e (Nat.ne_of_lt hin))
    have hu : its[i]? = some u := by simpa using px
    have hu2 : its2[i]? = some u2 := by simpa using py
    obtain ⟨x, hx⟩ : ∃ x, xs[i]? = some x := ⟨_, List.getElem?_eq_getElem hi⟩
    obtain ⟨y, hy⟩ : ∃ y, ys[i]? = some y := ⟨_, List.getElem?_eq_getElem (hl ▸ hi)⟩
    obtain ⟨u', hu', ru⟩ := rv.get hx; obtain ⟨u2', hu2', ru2⟩ := rv2.get hy
    rw [hu] at hu'; cases hu'; rw [hu2] at hu2'; cases hu2'
    refine ⟨_, rfl, zs_go (s := { s with heap := h', toks := tk }) z' fun h'' z'' sb => ?_⟩
    have hT2 : h''.get? s.heap.objs.size = some { cls := .type "tuple", data := .seq #[u, u2] } := (sb.2 _ (Nat.ne_of_gt hzl)).trans hT
    have new : ObjOk X.prog X.w (upd H s.heap.objs.size (.tup [x, y])) h'' s.heap.objs.size (.tup [x, y]) := ⟨by show 2 ≤ sizeLine; decide, [u, u2], .cons ru (.cons ru2 .nil), ⟨_, hT2, rfl, _, rfl⟩⟩
    have I1 : Inv X pins σ (upd H s.heap.objs.size (.tup [x, y])) { s with heap := h'', toks := tk } :=
      I.turnedNew (t' := tk) (ch := [z, TI, TO, i1, i2]) (fun c o hb q => (sb.2 c (fun q' => hb (by simp [q']))).trans (hk c o (fun q' => hb (by simp [q'])) (fun q' => hb (by simp [q'])) (fun q' => hb (by simp [q'])) (fun q' => hb (by simp [q'])) q)) hf (Nat.le_refl _) new
    refine ⟨.ref s.heap.objs.size, _, I1, rfl, ⟨_, x, y, rfl, I.hok.fresh (Nat.le_refl _), rfl, fun l hl => by rw [I.list_inj hl hqx]; exact hx, fun l hl => by rw [I.list_inj hl hqy]; exact hy⟩, ⟨z'', (sb.2 _ D.TIz).trans (hk _ _ D.TIz D.TITO D.TIi1 D.TIi2 hTI), ⟨u, u2, (sb.2 _ D.TOz).trans TO'⟩, sa'.1.at fun o q => (sb.2 _ D.i1z).trans q, sb'.1.at fun o q => (sb.2 _ D.i2z).trans q⟩, fun c hcm => ?_⟩
    have hlt : c < s.heap.objs.size := by
      have e' : c = z ∨ c = TI ∨ c = TO ∨ c = i1 ∨ c = i2 := by simpa using hcm
      rcases e' with q | q | q | q | q <;> rw [q]
      · exact hzl
      · exact Heap.lt_size hTI
      · exact Heap.lt_size hTO
      · obtain ⟨_, e1, _⟩ := h1; exact Heap.lt_size e1
      · obtain ⟨_, e2, _⟩ := h2; exact Heap.lt_size e2
    rw [upd_ne (Nat.ne_of_lt hlt)]; exact (hf c hcm).1
  · intro X hP hw hK hc i pins s σ H E I hf st hg
    subst hP; subst hw; subst hK
    obtain ⟨hz, hTI, ⟨x0, y0, hTO⟩, h1, h2⟩ := st; obtain ⟨xs, ys, hqx, hqy, hl, hl2⟩ := hg
    obtain ⟨its, rv, p, _⟩ := I.list hqx; obtain ⟨its2, rv2, p2, _⟩ := I.list hqy
    have l1 := rv.length; have l2 := rv2.length
    have hh : X.A.handled = none := I.ok.hd hc
    have Da := Draws.list (prog := X.prog) (w := X.w) (A := X.A.in1) (show X.A.in1.handled = none from hh) i1 a D.l1i1 its.toArray
    have Db0 := Draws.list (prog := X.prog) (w := X.w) (A := X.A.in1) (show X.A.in1.handled = none from hh) i2 b D.l2i2 its2.toArray
    have esz : its2.toArray.size = its.toArray.size := by simp; omega
    have Db : Draws X.prog X.w X.A.in1 i2 [i2, b] its.toArray.size (fun j v => its2.toArray[j]? = some v) (fun j h => h.IsListIter i2 b j ∧ h.IsList b its2.toArray) := by rw [← esz]; exact Db0
    have hin : i = its.toArray.size := by simp; omega
    refine zs_pyNext (s := s) hh Sp Da Db hz hTI hTO ⟨h1, p.isList⟩ ⟨h2, p2.isList⟩ (Nat.le_of_eq hin) (fun lt => absurd hin (Nat.ne_of_lt lt)) (fun _ h' tk hk => ⟨rfl, I.turnedL (t' := tk) (ch := [z, TI, TO, i1, i2]) (fun c o hb q => hk c o (fun q' => hb (by simp [q'])) (fun q' => hb (by simp [q'])) (fun q' => hb (by simp [q'])) (fun q' => hb (by simp [q'])) q) hf⟩)
def iZipL (K : PySem.W.Frag) (ta tk : TA) : TI := fun σ H R => ta σ H fun vs H1 => tk σ H1 fun zs H2 => zs = [.bl true] ∧ ∃ a b xs ys, vs = [.ref a, .ref b] ∧ SqL K H2 a xs ∧ SqL K H2 b ys ∧ R (ItzL K a b) H2
theorem pi_zl {X : Cx} {e e2 : Expr} {kws : List Keyword} {ta tk : TA} {p pos tpos : Pos} {elts : List Expr} {kk : Nat} (hg : Gl X "zip") (hm : X.mg "zip" = none) (ha : PA X [e, e2] ta) (hk : PK X kws tk)
    (he : backTo pos (starEach [e, e2] X.env) = (false, eval e X.env) :: backTo pos (starEach [e2] X.env) := by rfl) (hp : (backTo pos (starEach [e, e2] X.env)).any (·.1) = false := by rfl)
    (hal : (backToKw pos (keywordEach kws X.env)).all (·.1.isSome) = true := by rfl) (hkn : (backToKw pos (keywordEach kws X.env)).any (·.1.isNone) = false := by rfl) (hks : (backToKw pos (keywordEach kws X.env)).filterMap (·.1) = [("strict" : Str)] := by rfl) :
    PI X (.Tuple elts kk tpos) (.Call (.Name "zip" p) [e, e2] kws pos) (iZipL X.K ta tk) := by
  refine ⟨fun pins s σ H R I h => wpAny_Call_Name_kw (ld_blt I hg hm PyProof.Rows.boot_zip (tykw (thn (ha.run pos pins s σ H _ I h) fun us s1 ⟨vs, H1, I1, r1, q1⟩ => thn (hk.run pos pins s1 σ H1 _ I1 q1) fun ws s2 ⟨zs, H2, I2, r2, q2⟩ => ?_) he hp hal hkn))⟩
  rw [hks]; obtain ⟨ez, a, b, xs, ys, ex, hqx, hqy, q⟩ := q2
  subst ez; subst ex
  cases r2 with
  | cons rb rr => cases rr; cases (show _ = Value.bool true from rb); cases r1 with
    | cons r rr => cases rr with
      | cons r' rr =>
        cases rr; cases r; cases r'
        obtain ⟨its, rv, p1, _⟩ := I2.list hqx; obtain ⟨its2, rv2, p2, _⟩ := I2.list hqy
        refine zl_made p1.isList p2.isList fun g' hz hTI hTO h1 h2 hk' => zs_iter hz ?_
        have I3 : Inv X pins σ H2 { s2 with heap := g' } := I2.kept (t' := s2.toks) hk'

        refine ⟨s2.heap.objs.size + 4, [s2.heap.objs.size + 4, s2.heap.objs.size + 2, s2.heap.objs.size + 3, s2.heap.objs.size, s2.heap.objs.size + 1], _, _, H2, rfl, I3, turn_zl (PySem.W.ktu_apart s2.heap.objs.size a b p1.lt p2.lt), ⟨hz, hTI, ⟨_, _, hTO⟩, h1, h2⟩, fun c hcm => ?_, q⟩
        have hle : s2.heap.objs.size ≤ c := by
          have e' : c = s2.heap.objs.size + 4 ∨ c = s2.heap.objs.size + 2 ∨ c = s2.heap.objs.size + 3 ∨ c = s2.heap.objs.size ∨ c = s2.heap.objs.size + 1 := by simpa using hcm
          rcases e' with z | z | z | z | z <;> rw [z] <;> first | exact Nat.le_add_right _ _ | exact Nat.le_refl _
        exact I2.fpOk hle (I2.hok.fresh hle)
theorem walk_zl {K : PySem.W.Frag} {a b : Addr} {xs ys : List V} (hl : xs.length = ys.length) : Walk (ItzL K a b) xs.length (fun H => SqL K H a xs ∧ SqL K H b ys) (YPair (fun i => xs[i]?) (fun i => ys[i]?)) :=
  ⟨fun i _ hi q => ⟨xs, ys, q.1, q.2, hl, hi⟩, fun _ q => ⟨xs, ys, q.1, q.2, rfl, hl.symm⟩, fun i H v H' _ q ⟨T, x, z, h1, h2, h3, h4, h5⟩ => ⟨T, x, z, h1, h2, h3, h4 xs q.1, h5 ys q.2⟩⟩
theorem k_piZL {X : Cx} (K : PySem.W.Frag) (h : X.K = K) {e e2 : Expr} {kws : List Keyword} {ta tk : TA} {p pos tpos : Pos} {elts : List Expr} {kk : Nat} (hg : Gl X "zip") (hm : X.mg "zip" = none) (ha : PA X [e, e2] ta) (hk : PK X kws tk)
    (he : backTo pos (starEach [e, e2] X.env) = (false, eval e X.env) :: backTo pos (starEach [e2] X.env) := by rfl) (hp : (backTo pos (starEach [e, e2] X.env)).any (·.1) = false := by rfl)
    (hal : (backToKw pos (keywordEach kws X.env)).all (·.1.isSome) = true := by rfl) (hkn : (backToKw pos (keywordEach kws X.env)).any (·.1.isNone) = false := by rfl) (hks : (backToKw pos (keywordEach kws X.env)).filterMap (·.1) = [("strict" : Str)] := by rfl) :
    PI X (.Tuple elts kk tpos) (.Call (.Name "zip" p) [e, e2] kws pos) (iZipL K ta tk) := by subst h; exact pi_zl hg hm ha hk he hp hal hkn hks
end My

namespace My
open PySem PySem.Spec PyProof.Rows L2
/-! ### f(k = v, ..), nothing by position -/
theorem FunD.kbindsN {K : PySem.W.Frag} {x qual : Str} {params : Arguments} {body : List Stmt} {scope : Scope} {f : Addr} {fd : FuncData} {ps : List Str} (F : FunD K x qual params body scope [] [] f fd) (ks : List Str) (g : {α : Type} → List α → List α)
    (hrel : ∀ {zs : List V} {ws : List Value}, Vals zs ws → Vals (g zs) (g ws))
    (h : ∀ (kV doc pm : Value) (an : Option Addr) (cdv ct : Value) (ws : List Value), ws.length = ks.length → bindArgs (PySem.W.fnOf x qual params body scope .none kV doc pm an cdv ct) ⟨[], ks.zip ws⟩ = pure (ps.zip (g ws))) :
    KBn K fd ps 0 ks (fun _ ws => g ws) (fun _ zs => g zs) := by
  obtain ⟨oc, od, dV, kV, doc, pm, an, cdv, ct, osl, rfl, lk, hcd, hD, hK⟩ := F.ex
  rcases hD with ⟨_, rfl⟩ | ⟨e, _⟩
  · refine ⟨fun s us ws X l1 l2 => ?_, fun _ r => hrel r⟩
    obtain rfl : us = [] := List.eq_nil_of_length_eq_zero l1
    exact .of_eq (h kV doc pm an cdv ct ws l2)
  · exact absurd rfl e
/-- two, the other way round -/
def sw2 {α : Type} : List α → List α
  | [a, b] => [b, a]
  | l => l
theorem sw2_rel {zs : List V} {ws : List Value} (h : Vals zs ws) : Vals (sw2 zs) (sw2 ws) := by
  cases h with
  | nil => exact .nil
  | cons r1 h => cases h with
    | nil => exact .cons r1 .nil
    | cons r2 h => cases h with
      | nil => exact .cons r2 (.cons r1 .nil)
      | cons r3 h => exact .cons r1 (.cons r2 (.cons r3 h))
/-- any number of them, back to front -/
theorem Vals_rev {zs : List V} {ws : List Value} (h : Vals zs ws) : Vals zs.reverse ws.reverse := by
  induction h with
  | nil => exact .nil
  | cons r h ih =>
    rw [List.reverse_cons, List.reverse_cons]
    exact Vals.append ih (.cons r .nil)
def tCallKO (m : Nat) (sp : Sp) (gV : List V → List V → List V) (E : XK) (tk : TA) : TE := fun σ H Q => tk σ H fun zs H2 => zs.length = m ∧ sp (gV [] zs) H2 Q E
section
variable {X : Cx} {CX : CXT} {k : Nat} {f : Addr} {fd : FuncData} {ps ks : List Str} {sp : Sp} {E : XK} {x : Str} {p pos : Pos} {kws : List Keyword} {tk : TA} {g : List Value → List Value → List Value} {gV : List V → List V → List V}
theorem pe_callKO (F : FnOk X.prog X.w X.K X.mg X.base CX k f fd ps sp) (hr : Room k X.A) (hg : Gl X x) (hm : X.mg x = some (.ref f)) (hk : PySem.W.keepIn X.K (.ref f) = true) (hb : KBn X.K fd ps 0 ks g gV) (hx : Passes CX X E)
    (hkw : PK X kws tk) (hall : (backToKw pos (keywordEach kws X.env)).all (·.1.isSome) = true := by rfl) (hks : (backToKw pos (keywordEach kws X.env)).filterMap (·.1) = ks := by rfl)
    (hdb : (x == ("__debug__" : Str)) = false := by decide)
    (hpl : ((backTo pos (starEach [] X.env)).any (·.1) || (backToKw pos (keywordEach kws X.env)).any (·.1.isNone)) = false := by rfl) :
    PE X (.Call (.Name x p) [] kws pos) (tCallKO ks.length sp gV E tk) := by
  refine ⟨fun pins s σ H Q I h => ?_⟩
  refine wpAny_Call_Name_kw (ld_glob I hg hm ?_ hdb)
  refine PySem.W.callWith_KW0 (h₀ := X.base) I.ok.mod.kin hk hall (thn (hkw.run pos pins s σ H _ I h) fun ws s2 ⟨zs, H2, I2, rz, l2, q2⟩ => ⟨I2.kIn, ?_⟩) hpl
  rw [hks]
  exact run_fnN (us := []) (vs := []) F hr hb hx I2 .nil rz rfl l2 q2
end
end My

set_option exponentiation.threshold 100000
namespace My
open PySem PySem.Spec PyProof.Rows L2 Pre
section
variable {P : Program} {w : World} {K : PySem.W.Frag} {mg : Str → Option Value} {base : Heap}
/-! ### the law's draws -/
/-- a generator: its count is at most n -/
def GenAt (H : Hp) (g : Addr) (n : Nat) : Prop := ∃ x y z : Int, H g = some (.lst [.int x, .int y, .int z]) ∧ 0 ≤ z ∧ z ≤ (n : Int)
/-- all but one thing stand as they stood -/
def But (g : Addr) (H H' : Hp) : Prop := ∀ b o, b ≠ g → H b = some o → H' b = some o
theorem But.refl {g : Addr} {H : Hp} : But g H H := fun _ _ _ h => h
theorem But.trans {g : Addr} {H H1 H2 : Hp} (a : But g H H1) (b : But g H1 H2) : But g H H2 := fun c o n h => b c o n (a c o n h)
theorem But.same {g : Addr} {H H1 H2 : Hp} (a : But g H H1) (b : Same H1 H2) : But g H H2 := fun c o n h => b c o (a c o n h)
theorem But.of {g : Addr} {H H1 : Hp} (b : Same H H1) : But g H H1 := fun c o _ h => b c o h
theorem But.upd {g : Addr} {H H1 : Hp} {o : HO} (a : But g H H1) : But g H (upd H1 g o) := fun c u n h => by
  rw [upd_ne n]
  exact a c u n h
theorem But.free {g : Addr} {H H1 : Hp} (a : But g H H1) {p : Addr} (n : p ≠ g) (h : H1 p = none) : H p = none := by
  cases e : H p with
  | none => rfl
  | some o => rw [a p o n e] at h; cases h
/-- what is changed was not there at first -/
theorem But.fresh {g : Addr} {H H1 H2 : Hp} (s : Same H H1) (n : H g = none) (b : But g H1 H2) : Same H H2 := fun c o h => b c o (ne_of_none h n) (s c o h)
theorem GenAt.mono {H : Hp} {g : Addr} {n m : Nat} (h : GenAt H g n) (l : n ≤ m) : GenAt H g m := by
  obtain ⟨x, y, z, a, b, c⟩ := h
  exact ⟨x, y, z, a, b, by omega⟩
theorem GenAt.same {H H' : Hp} {g : Addr} {n : Nat} (h : GenAt H g n) (s : Same H H') : GenAt H' g n := by
  obtain ⟨x, y, z, a, b⟩ := h
  exact ⟨x, y, z, s _ _ a, b⟩
theorem GenAt.ne {H : Hp} {g : Addr} {n : Nat} {p : Addr} (h : GenAt H g n) (np : H p = none) : p ≠ g := by
  obtain ⟨x, y, z, a, _⟩ := h
  exact (ne_of_none a np).symm
theorem small_2900 {b : Int} (h : b ≤ 2 ^ 60) : b < 2 ^ 2900 := by omega
theorem pow_pos' (w : Nat) : (0 : Int) < 2 ^ w := Int.pow_pos (by decide)
theorem pow2_le {k m : Nat} (h : k ≤ m) : (2 : Int) ^ k ≤ 2 ^ m := by
  have e := Nat.pow_le_pow_right (show 0 < 2 by decide) h
  have e2 : ((2 ^ k : Nat) : Int) ≤ ((2 ^ m : Nat) : Int) := Int.ofNat_le.mpr e
  rw [Int.natCast_pow, Int.natCast_pow] at e2
  exact e2
def sp_law_cell (K : PySem.W.Frag) : Sp := fun vs H Q _ => ∃ (a : Addr) (ns : List Int) (i : Nat), vs = [.ref a, .int i] ∧ SqL K H a (ns.map V.int) ∧ ∀ (n : Int) H', Same H H' → Q (.int n) H'
theorem cmul_mod (x m j : Int) (h0 : 0 < m) (h1 : m ≤ 2 ^ 60) : CMul (x % m) j := by
  have a := Int.emod_nonneg x (show m ≠ 0 by omega)
  have b := Int.emod_lt_of_pos x h0
  exact .inl ⟨by omega, by omega⟩
def sp_law_hash : Sp := fun vs H Q _ => ∃ i j : Int, vs = [.int i, .int j] ∧ 0 ≤ j ∧ j < 2 ^ 60 ∧ ∀ n : Int, Q (.int n) H
theorem G_law_hash (T : Top K mg) : FnOk P w K mg base CX0 1 T.f_law_hash T.fd_law_hash ["_law_seed", "_law_index"] sp_law_hash := by
  refine T.F_law_hash.ok sc_law_hash (fun vs H Q E h => by obtain ⟨i, j, rfl, _⟩ := h; rfl) (fun cdv A outer s H vs Q E hr h => ?_)
  obtain ⟨i, j, rfl, h0, h1, q⟩ := h
  refine ⟨_, PSs.nox (pss_cons (ps_set (i := 2) sc_law_hash.nd rfl (by first | exact Or.inl rfl | exact Or.inr rfl) (pe_op op_mod (pe_callTy call_int1 (by rfl) T.n_int (by decide +kernel) (pa_cons (pe_op op_add (pe_op op_add (pe_op op_add (pe_op op_mul (pv 0) pe_int) (pe_op op_mul (pe_op op_mul pe_int (pv 1)) (pv 1))) (pe_op op_mul pe_int (pv 1))) pe_int) pa_nil)) pe_int))
  (pss_cons (ps_set (i := 2) sc_law_hash.nd rfl (by first | exact Or.inl rfl | exact Or.inr rfl) (pe_op op_mod (pe_callTy call_int1 (by rfl) T.n_int (by decide +kernel) (pa_cons (pe_op op_add (pe_op op_add (pe_op op_mul (pv 2) (pv 2)) (pe_op op_mul pe_int (pv 1))) pe_int) pa_nil)) pe_int))
  (pss_one (ps_ret (pe_op op_mod (pe_callTy call_int1 (by rfl) T.n_int (by decide +kernel) (pa_cons (pe_op op_mul (pv 2) pe_int) pa_nil)) pe_int))))), ?_⟩
  refine ⟨_, rfl, _, _, rfl, rfl, .inr ⟨by decide, by decide⟩, _, rfl, _, _, rfl, rfl, .inl ⟨by decide, by decide⟩, _, rfl, _, _, rfl, rfl, .inr ⟨by omega, by omega⟩, _, _, rfl, rfl, _, rfl, _, _, rfl, rfl, .inl ⟨by decide, by decide⟩, _, _, rfl, rfl, _, _, rfl, rfl,
    .inl ⟨_, rfl, _, _, rfl, rfl, (by show (0 : Int) < _; decide), ?_⟩⟩
  refine ⟨_, rfl, _, rfl, _, _, rfl, rfl, cmul_mod _ _ _ (by decide) (by decide), _, rfl, _, _, rfl, rfl, .inl ⟨by decide, by decide⟩, _, _, rfl, rfl, _, _, rfl, rfl, .inl ⟨_, rfl, _, _, rfl, rfl, (by show (0 : Int) < _; decide), ?_⟩⟩
  refine ⟨_, rfl, _, _, rfl, rfl, .inr ⟨by decide, by decide⟩, .inl ⟨_, rfl, _, _, rfl, rfl, (by show (0 : Int) < _; decide), ?_⟩⟩
  exact q _

def sp_law_generator (K : PySem.W.Frag) : Sp := fun vs H Q _ => ∃ (a : Addr) (ns : List Int) (i : Nat), vs = [.ref a, .int i] ∧ SqL K H a (ns.map V.int) ∧ ∀ H' g, Same H H' → H g = none → GenAt H' g (1000 * i) → Q (.ref g) H'
theorem G_law_generator (T : Top K mg) : FnOk P w K mg base CX0 1 T.f_law_generator T.fd_law_generator ["_law_script", "_law_index"] (sp_law_generator K) := by
  refine T.F_law_generator.ok sc_law_generator (fun vs H Q E h => by obtain ⟨a, ns, i, rfl, _⟩ := h; rfl) (fun cdv A outer s H vs Q E hr h => ?_)
  obtain ⟨a, ns, i, rfl, hS, q⟩ := h
  refine ⟨_, PSs.nox (pss_cons (ps_set (i := 2) sc_law_generator.nd rfl (by first | exact Or.inl rfl | exact Or.inr rfl) (pe_ifExp (pt_cmpR op_lt (pv 1) (pe_callB (k_len K rfl) (by rfl) T.n_len (by decide +kernel) (pa_cons (pv 0) pa_nil)) (nomark _)) (pe_ix (k_ixL K rfl) (pv 0) (pv 1) (fun _ _ => rfl)) (pe_op op_mod (pe_callB (k_sum K rfl rfl) (by rfl) T.n_sum (by decide +kernel) (pa_cons (pe_slice (k_slL K rfl) (pv 0) po_none (po_some pe_int)) pa_nil)) pe_int)))
  (pss_one (ps_ret (pe_lst (pa_cons (pe_op op_mod (pe_callTy call_int1 (by rfl) T.n_int (by decide +kernel) (pa_cons (pe_callB (call_max2 rfl) (by rfl) T.n_max (by decide +kernel) (pa_cons (pe_op op_sub (pv 2) (pe_op op_powW pe_int pe_int)) (pa_cons pe_int pa_nil))) pa_nil)) (pe_op op_powW (pe_op op_powW pe_int pe_int) pe_int)) (pa_cons (pe_op op_mod (pe_callTy call_int1 (by rfl) T.n_int (by decide +kernel) (pa_cons (pv 2) pa_nil)) pe_int) (pa_cons (pe_op op_mul pe_int (pv 1)) pa_nil))))))), ?_⟩
  refine ⟨_, rfl, _, rfl, a, _, rfl, .inl hS, _, _, rfl, rfl, _, rfl, ite2 (fun e => ?_) (fun e => ?_)⟩
  · have e1 : (i : Int) < (((ns.map V.int).length : Nat) : Int) := of_decide_eq_true e
    rw [List.length_map] at e1
    have hi : i < ns.length := by omega
    refine ⟨_, rfl, _, rfl, a, _, _, .int ns[i], rfl, rfl, hS, atI_nat (by rw [List.getElem?_map, List.getElem?_eq_getElem hi]; rfl), ?_⟩
    have s1 := Same.refl H
    generalize ns[i] = n at *
    refine ⟨_, rfl, _, _, rfl, rfl, ⟨by decide, by decide +kernel⟩, _, _, rfl, rfl, _, _, rfl, .inl ⟨_, rfl, _, _, rfl, rfl, ⟨by decide, by decide +kernel⟩, _, _, rfl, rfl, ⟨by decide, by decide +kernel⟩, _, _, rfl, rfl, (by show (0 : Int) < _; decide +kernel), ?_⟩⟩
    refine ⟨_, rfl, .inl ⟨_, rfl, _, _, rfl, rfl, (by show (0 : Int) < _; decide), ?_⟩⟩
    refine ⟨_, rfl, _, _, rfl, rfl, .inl ⟨by decide, by decide⟩, (show 3 ≤ sizeLine by decide), fun g ng => ?_⟩
    exact q _ g (s1.trans (same_upd ng)) (s1.free ng) ⟨_, _, _, upd_same, by omega, by omega⟩
  · refine ⟨_, rfl, _, rfl, a, _, rfl, hS, fun p np => ?_⟩
    have ec : ∃ ms : List Int, cutV (ns.map V.int) none (some 1) = ms.map V.int := ⟨ns.take 1, by rw [show (1 : Int) = ((1 : Nat) : Int) from rfl, cut_take, List.map_take]⟩
    obtain ⟨ms, em⟩ := ec
    obtain ⟨H1, e1, s1, hp⟩ := fresh (.lst (cutV (ns.map V.int) none (some 1))) np
    rw [e1]
    refine ⟨p, ms, rfl, .inl (.inl (by rw [hp, em])), _, _, rfl, rfl, (by show (0 : Int) < 1000003; decide), ?_⟩
    dsimp only
    generalize ms.sum % 1000003 = n at *
    refine ⟨_, rfl, _, _, rfl, rfl, ⟨by decide, by decide +kernel⟩, _, _, rfl, rfl, _, _, rfl, .inl ⟨_, rfl, _, _, rfl, rfl, ⟨by decide, by decide +kernel⟩, _, _, rfl, rfl, ⟨by decide, by decide +kernel⟩, _, _, rfl, rfl, (by show (0 : Int) < _; decide +kernel), ?_⟩⟩
    refine ⟨_, rfl, .inl ⟨_, rfl, _, _, rfl, rfl, (by show (0 : Int) < _; decide), ?_⟩⟩
    refine ⟨_, rfl, _, _, rfl, rfl, .inl ⟨by decide, by decide⟩, (show 3 ≤ sizeLine by decide), fun g ng => ?_⟩
    exact q _ g (s1.trans (same_upd ng)) (s1.free ng) ⟨_, _, _, upd_same, by omega, by omega⟩
def sp_law_random : Sp := fun vs H Q _ => ∃ (g : Addr) (b : Int) (n : Nat), vs = [.ref g, .int b] ∧ GenAt H g n ∧ n ≤ 10 ^ 12 ∧ 0 < b ∧ b < 2 ^ 2900 ∧ ∀ (d : Int) H', 0 ≤ d → d < b → GenAt H' g (n + 100) → But g H H' → Q (.int d) H'
theorem G_law_random (T : Top K mg) : FnOk P w K mg base CX0 2 T.f_law_random T.fd_law_random ["_law_generator_here", "_law_bound"] sp_law_random := by
  refine T.F_law_random.ok sc_law_random (fun vs H Q E h => by obtain ⟨g, b, n, rfl, _⟩ := h; rfl) (fun cdv A outer s H vs Q E hr h => ?_)
  obtain ⟨g, b, n, rfl, ⟨x, y, z, hg, z0, z1⟩, hn, b0, b1, q⟩ := h
  refine ⟨_, PSs.nox (pss_cons (ps_if (pt_cmpR op_gt (pe_ix (k_ixL K rfl) (pv 0) pe_int (fun _ _ => rfl)) pe_int (nomark _))
    (pss_cons (ps_set (i := 2) sc_law_random.nd rfl (by first | exact Or.inl rfl | exact Or.inr rfl) (pe_op op_mod (pe_callTy call_int1 (by rfl) T.n_int (by decide +kernel) (pa_cons (pe_ix (k_ixL K rfl) (pv 0) pe_int (fun _ _ => rfl)) pa_nil)) (pv 1)))
  (pss_cons (ps_asg (pe_op op_fdivW (pe_ix (k_ixL K rfl) (pv 0) pe_int (fun _ _ => rfl)) (pv 1)) (pg_sub (pv 0) pe_int set_list))
  (pss_one (ps_ret (pv 2)))))
    pss_nil)
  (pss_cons (ps_set (i := 2) sc_law_random.nd rfl (by first | exact Or.inl rfl | exact Or.inr rfl) pe_int)
  (pss_cons (ps_for PassesOwn.never rfl (pi_range1 (by rfl) T.n_range (pa_cons (pe_op op_add pe_int (pe_op op_fdivW (pe_bits (pv 1)) pe_int)) pa_nil)) (pg_name (i := 3) sc_law_random.nd rfl (by first | exact Or.inl rfl | exact Or.inr rfl))
    (pss_cons (ps_asg (pe_op op_add (pe_ix (k_ixL K rfl) (pv 0) pe_int (fun _ _ => rfl)) pe_int) (pg_sub (pv 0) pe_int set_list))
  (pss_one (ps_set (i := 2) sc_law_random.nd rfl (by first | exact Or.inl rfl | exact Or.inr rfl) (pe_op op_add (pe_op op_mul (pv 2) pe_int) (pe_call (G_law_hash (P := P) T) (hr.mono (by decide)) (by rfl) T.g_law_hash T.F_law_hash.kp T.b_law_hash .nil pass0 (pa_cons (pe_ix (k_ixL K rfl) (pv 0) pe_int (fun _ _ => rfl)) (pa_cons (pe_ix (k_ixL K rfl) (pv 0) pe_int (fun _ _ => rfl)) pa_nil))))))))
  (pss_one (ps_ret (pe_op op_mod (pe_callTy call_int1 (by rfl) T.n_int (by decide +kernel) (pa_cons (pv 2) pa_nil)) (pv 1))))))), ?_⟩
  have a0 : ∀ x y z : Int, atI [V.int x, .int y, .int z] 0 = some (.int x) := fun _ _ _ => rfl
  have a1 : ∀ x y z : Int, atI [V.int x, .int y, .int z] 1 = some (.int y) := fun _ _ _ => rfl
  have a2 : ∀ x y z : Int, atI [V.int x, .int y, .int z] 2 = some (.int z) := fun _ _ _ => rfl
  have hS : SqL K H g [.int x, .int y, .int z] := .inl (.inl hg)
  have nb : b.natAbs < 2 ^ 2900 := by
    have e : ((b.natAbs : Nat) : Int) < ((2 ^ 2900 : Nat) : Int) := by
      rw [Int.natCast_pow]
      omega
    exact Int.ofNat_lt.mp e
  refine ⟨_, rfl, g, _, 0, _, rfl, rfl, hS, a0 x y z, _, _, rfl, rfl, _, rfl, ite2 (fun e => ?_) (fun e => ?_)⟩
  · refine ⟨_, rfl, g, _, 0, _, rfl, rfl, hS, a0 x y z, .inl ⟨_, rfl, _, rfl, _, _, rfl, rfl, b0, ?_⟩⟩
    refine ⟨_, rfl, g, _, 0, _, rfl, rfl, hS, a0 x y z, _, rfl, _, _, rfl, rfl, wide_div b0 nb (by decide) (by decide), _, rfl, g, _, 0, 0, rfl, rfl, hg, rfl, _, rfl, ?_⟩
    exact q _ _ (Int.emod_nonneg _ (by omega)) (Int.emod_lt_of_pos _ b0) ⟨_, _, _, upd_same, z0, by omega⟩ (But.upd But.refl)
  · have hb : Builtin.Int.intBits b ≤ 2900 := PyProof.Rows.intBits_le nb
    have hq0 : (0 : Int) ≤ ((Builtin.Int.intBits b : Nat) : Int) / 30 := Int.ediv_nonneg (Int.natCast_nonneg _) (by decide)
    have hq1 : ((Builtin.Int.intBits b : Nat) : Int) / 30 ≤ 97 := by omega
    refine ⟨_, rfl, _, rfl, _, _, rfl, rfl, ⟨by decide, by decide +kernel⟩, _, _, rfl, rfl, _, rfl, by omega, by omega, ?_⟩
    refine for_range (lo := 0) (n := (1 + ((Builtin.Int.intBits b : Nat) : Int) / 30).toNat) (fun i σ H1 => ∃ (d z' : Int) (v : Option V), σ = [some (.ref g), some (.int b), some (.int d), v] ∧ H1 g = some (.lst [.int x, .int y, .int z']) ∧ 0 ≤ z' ∧ z' ≤ (n : Int) + (i : Int) ∧ But g H H1)
      ⟨0, z, none, rfl, hg, z0, by omega, But.refl⟩ ?_ ?_
    · rintro i σ H1 hi ⟨d, z', v, rfl, hg1, y0, y1, b1⟩
      have hS1 : SqL K H1 g [.int x, .int y, .int z'] := .inl (.inl hg1)
      refine ⟨_, rfl, g, _, 2, _, rfl, rfl, hS1, a2 x y z', _, _, rfl, rfl, _, rfl, g, _, 2, 2, rfl, rfl, hg1, rfl, ?_⟩
      have hS2 : SqL K (upd H1 g (.lst [.int x, .int y, .int (z' + 1)])) g [.int x, .int y, .int (z' + 1)] := .inl (.inl upd_same)
      refine ⟨_, rfl, _, _, rfl, rfl, .inr ⟨by decide, by decide⟩, _, rfl, g, _, 1, _, rfl, rfl, hS2, a1 _ _ _, _, rfl, g, _, 2, _, rfl, rfl, hS2, a2 _ _ _, _, _, rfl, by omega, by omega, fun r => ?_⟩
      exact ⟨_, _, rfl, rfl, _, z' + 1, _, rfl, upd_same, by omega, by omega, But.upd b1⟩
    · rintro σ H1 ⟨d, z', v, rfl, hg1, y0, y1, b1⟩
      refine ⟨_, rfl, .inl ⟨_, rfl, _, rfl, _, _, rfl, rfl, b0, ?_⟩⟩
      exact q _ _ (Int.emod_nonneg _ (by omega)) (Int.emod_lt_of_pos _ b0) ⟨_, _, _, hg1, y0, by omega⟩ b1
/-- a comprehension over a range that draws whole numbers -/
theorem lc_drawR {lo : Int} {n : Nat} {j : Nat} {te : TE} {vs : List Nat} {σ : L2.St} {H1 : Hp} {D : Addr} {Qd : Hp → Prop} (g : Addr) (m step : Nat) (P : Int → Prop) (nD : H1 D = none) (hG : GenAt H1 g m) (hz : n < sizeLine)
    (hw : ∀ x, wipe ((wipe σ vs).set j (some x)) vs = wipe σ vs)
    (hs : ∀ (i : Nat) (H' : Hp), i < n → But g H1 H' → GenAt H' g (m + step * i) → ∀ Qt : V → Hp → Prop, (∀ (y : Int) H'', P y → But g H' H'' → GenAt H'' g (m + step * (i + 1)) → Qt (.int y) H'') → te ((wipe σ vs).set j (some (.int (lo + (i : Int))))) H' Qt)
    (hd : ∀ H' (ys : List Int), But g H1 H' → GenAt H' g (m + step * n) → H' D = some (.lst (ys.map V.int)) → ys.length = n → (∀ y ∈ ys, P y) → Qd H') :
    ∃ W : Nat → Nat → Hp → Prop, (∃ m, W 0 m (upd H1 D (.lst []))) ∧ ∀ i m H, W i m H →
      ((Itr lo n).stop i H ∧ Qd H) ∨ ((Itr lo n).go i H ∧ ∃ Nx : Hp → Prop, (∀ H', Nx H' → ∃ m', m' < m ∧ W (i + 1) m' H') ∧ ∀ x H', (Itr lo n).yld i H x H' → gName j x (wipe σ vs) H' fun σ2 H2 => wipe σ2 vs = wipe σ vs ∧ tYes σ2 H2 fun b H3 =>
        if b = true then te σ2 H3 fun y H4 => ∃ acc, H4 D = some (.lst acc) ∧ acc.length < sizeLine ∧ Nx (upd H4 D (.lst (acc ++ [y]))) else Nx H3) := by
  have nDg : D ≠ g := hG.ne nD
  refine lc_range (lo := lo) (n := n) (fun i H => ∃ ys : List Int, But g H1 H ∧ GenAt H g (m + step * i) ∧ H D = some (.lst (ys.map V.int)) ∧ ys.length = i ∧ ∀ y ∈ ys, P y)
    ⟨[], But.of (same_upd nD), hG.same (same_upd nD), upd_same, rfl, (fun _ h => nomatch h)⟩ ?_ ?_
  · rintro i H hi ⟨ys, b, hg, hD, hl, hP⟩
    refine ⟨hw _, ?_⟩
    unfold tYes
    dsimp only
    rw [if_pos (show true = true from rfl)]
    refine hs i H hi b hg _ fun y H2 py b2 hg2 => ?_
    refine ⟨_, b2 _ _ nDg hD, by rw [List.length_map]; omega, ys ++ [y], ?_, ?_, ?_, ?_, ?_⟩
    · intro c o nc hc
      rw [upd_ne (ne_of_none hc nD)]
      exact b2 _ _ nc (b _ _ nc hc)
    · obtain ⟨x1, x2, x3, e1, e2⟩ := hg2
      exact ⟨x1, x2, x3, by rw [upd_ne nDg.symm]; exact e1, e2⟩
    · rw [upd_same, List.map_append]
      rfl
    · rw [List.length_append, hl]
      rfl
    · intro z hz
      rcases List.mem_append.mp hz with hz | hz
      · exact hP z hz
      · rw [List.mem_singleton.mp hz]
        exact py
  · rintro H ⟨ys, b, hg, hD, hl, hP⟩
    exact hd H ys b hg hD hl hP
end
end My

namespace My
open PySem PySem.Spec PyProof.Rows L2 Pre
/-- a comprehension over a list of whole numbers that draws whole numbers -/
theorem lc_drawL {K : PySem.W.Frag} {a : Addr} {xs : List Int} {j : Nat} {te : TE} {vs : List Nat} {σ : L2.St} {H1 : Hp} {D : Addr} {Qd : Hp → Prop} (g : Addr) (m step : Nat) (P : Int → Prop) (nD : H1 D = none) (hG : GenAt H1 g m) (hA : H1 a = some (.lst (xs.map V.int))) (ag : a ≠ g) (hz : xs.length < sizeLine)
    (hw : ∀ x, wipe ((wipe σ vs).set j (some x)) vs = wipe σ vs)
    (hs : ∀ (i : Nat) (x : Int) (H' : Hp), xs[i]? = some x → But g H1 H' → GenAt H' g (m + step * i) → ∀ Qt : V → Hp → Prop, (∀ (y : Int) H'', P y → But g H' H'' → GenAt H'' g (m + step * (i + 1)) → Qt (.int y) H'') → te ((wipe σ vs).set j (some (.int x))) H' Qt)
    (hd : ∀ H' (ys : List Int), But g H1 H' → GenAt H' g (m + step * xs.length) → H' D = some (.lst (ys.map V.int)) → ys.length = xs.length → (∀ y ∈ ys, P y) → Qd H') :
    ∃ W : Nat → Nat → Hp → Prop, (∃ m, W 0 m (upd H1 D (.lst []))) ∧ ∀ i m H, W i m H →
      ((Itl K a).stop i H ∧ Qd H) ∨ ((Itl K a).go i H ∧ ∃ Nx : Hp → Prop, (∀ H', Nx H' → ∃ m', m' < m ∧ W (i + 1) m' H') ∧ ∀ x H', (Itl K a).yld i H x H' → gName j x (wipe σ vs) H' fun σ2 H2 => wipe σ2 vs = wipe σ vs ∧ tYes σ2 H2 fun b H3 =>
        if b = true then te σ2 H3 fun y H4 => ∃ acc, H4 D = some (.lst acc) ∧ acc.length < sizeLine ∧ Nx (upd H4 D (.lst (acc ++ [y]))) else Nx H3) := by
  have nDg : D ≠ g := hG.ne nD
  have aD : a ≠ D := ne_of_none hA nD
  refine lc_list (K := K) (a := a) (xs := xs.map V.int) (fun i H => ∃ ys : List Int, But g H1 H ∧ GenAt H g (m + step * i) ∧ H D = some (.lst (ys.map V.int)) ∧ ys.length = i ∧ ∀ y ∈ ys, P y)
    ⟨[], But.of (same_upd nD), hG.same (same_upd nD), upd_same, rfl, (fun _ h => nomatch h)⟩ (fun i H _ ⟨_, b, _⟩ => .inl (.inl (b _ _ ag hA))) ?_ ?_
  · rintro i v H hi ⟨ys, b, hg, hD, hl, hP⟩
    obtain ⟨x, hx, rfl⟩ := int_at hi
    have hil := (List.getElem?_eq_some_iff.mp hx).1
    refine ⟨hw _, ?_⟩
    unfold tYes
    dsimp only
    rw [if_pos (show true = true from rfl)]
    refine hs i x H hx b hg _ fun y H2 py b2 hg2 => ?_
    refine ⟨_, b2 _ _ nDg hD, by rw [List.length_map]; omega, ys ++ [y], ?_, ?_, ?_, ?_, ?_⟩
    · intro c o nc hc
      rw [upd_ne (ne_of_none hc nD)]
      exact b2 _ _ nc (b _ _ nc hc)
    · obtain ⟨x1, x2, x3, e1, e2⟩ := hg2
      exact ⟨x1, x2, x3, by rw [upd_ne nDg.symm]; exact e1, e2⟩
    · rw [upd_same, List.map_append]
      rfl
    · rw [List.length_append, hl]
      rfl
    · intro z hz
      rcases List.mem_append.mp hz with hz | hz
      · exact hP z hz
      · rw [List.mem_singleton.mp hz]
        exact py
  · rintro H ⟨ys, b, hg, hD, hl, hP⟩
    rw [List.length_map] at hg hl
    exact hd H ys b hg hD hl hP
end My

namespace My
open PySem PySem.Spec PyProof.Rows L2 Pre
/-- a comprehension over a list that makes new things: R tells what is known of the i-th -/
theorem lc_relL {K : PySem.W.Frag} {a : Addr} {xs : List V} {j : Nat} {te : TE} {vs : List Nat} {σ : L2.St} {H1 : Hp} {D : Addr} {Qd : Hp → Prop} (R : Nat → V → Hp → Prop) (nD : H1 D = none) (hS : SqL K H1 a xs) (hz : xs.length < sizeLine)
    (mono : ∀ (i : Nat) (y : V) (H H' : Hp), Pre.Off D H H' → R i y H → R i y H') (hw : ∀ x, wipe ((wipe σ vs).set j (some x)) vs = wipe σ vs)
    (hs : ∀ (i : Nat) (x : V) (H' : Hp) (zs : List V), xs[i]? = some x → Same H1 H' → H' D = some (.lst zs) → ∀ Qt : V → Hp → Prop, (∀ y H'', Same H' H'' → R i y H'' → Qt y H'') → te ((wipe σ vs).set j (some x)) H' Qt)
    (hd : ∀ H' ys, Same H1 H' → H' D = some (.lst ys) → ys.length = xs.length → (∀ (i : Nat) (y : V), ys[i]? = some y → R i y H') → Qd H') :
    ∃ W : Nat → Nat → Hp → Prop, (∃ m, W 0 m (upd H1 D (.lst []))) ∧ ∀ i m H, W i m H →
      ((Itl K a).stop i H ∧ Qd H) ∨ ((Itl K a).go i H ∧ ∃ Nx : Hp → Prop, (∀ H', Nx H' → ∃ m', m' < m ∧ W (i + 1) m' H') ∧ ∀ x H', (Itl K a).yld i H x H' → gName j x (wipe σ vs) H' fun σ2 H2 => wipe σ2 vs = wipe σ vs ∧ tYes σ2 H2 fun b H3 =>
        if b = true then te σ2 H3 fun y H4 => ∃ acc, H4 D = some (.lst acc) ∧ acc.length < sizeLine ∧ Nx (upd H4 D (.lst (acc ++ [y]))) else Nx H3) := by
  refine lc_list (K := K) (a := a) (xs := xs) (RelPv R H1 D) ⟨[], same_upd nD, upd_same, rfl, fun k y h => by simp at h⟩ (fun i H _ ⟨_, s, _⟩ => s.seq hS) ?_ ?_
  · rintro i x H hx ⟨ys, s, hD, hl, hR⟩
    have hi : i < xs.length := (List.getElem?_eq_some_iff.mp hx).1
    refine ⟨hw _, ?_⟩
    unfold tYes
    dsimp only
    rw [if_pos (show true = true from rfl)]
    refine hs i x H ys hx s hD _ fun y H4 s4 r4 => ?_
    refine ⟨ys, s4 _ _ hD, by omega, ys ++ [y], same_over nD (s.trans s4), upd_same, by rw [List.length_append, hl]; rfl, fun k z hz => ?_⟩
    have off : Pre.Off D H4 (upd H4 D (.lst (ys ++ [y]))) := fun b o nb h => by rw [upd_ne nb]; exact h
    by_cases hk : k < ys.length
    · rw [List.getElem?_append_left hk] at hz
      exact mono k z H _ (fun b o nb h => off b o nb (s4 b o h)) (hR k z hz)
    · rw [List.getElem?_append_right (by omega)] at hz
      have hk2 : k - ys.length = 0 := by
        have h2 := (List.getElem?_eq_some_iff.mp hz).1
        rw [List.length_singleton] at h2
        omega
      rw [hk2] at hz
      cases hz
      have ek : k = i := by omega
      rw [ek]
      exact mono i y H4 _ off r4
  · rintro H ⟨ys, s, hD, hl, hR⟩
    exact hd H ys s hD hl hR
/-- a list of lists of whole numbers -/
def RowsIn (H : Hp) (p : Addr) (rows : List (List Int)) : Prop := ∃ as : List Addr, H p = some (.lst (as.map V.ref)) ∧ as.length = rows.length ∧ ∀ (i : Nat) (a : Addr) (r : List Int), as[i]? = some a → rows[i]? = some r → H a = some (.lst (r.map V.int))
theorem RowsIn.same {H H' : Hp} {p : Addr} {rows : List (List Int)} (h : RowsIn H p rows) (s : Same H H') : RowsIn H' p rows := by
  obtain ⟨as, h1, h2, h3⟩ := h
  exact ⟨as, s _ _ h1, h2, fun i a r ha hr => s _ _ (h3 i a r ha hr)⟩
section
variable {X : Cx}
theorem huD {k : Nat} {A : Around} (r : Room k A) : A.units + 65 < cLine := by have := r.un; omega
theorem k_inD (K : PySem.W.Frag) (h : X.K = K) (hu : X.A.units + 65 < cLine) : OpR X (compareOp .In) (rInD K) := by subst h; exact op_inD hu
theorem k_notInD (K : PySem.W.Frag) (h : X.K = K) (hu : X.A.units + 65 < cLine) : OpR X (compareOp .NotIn) (rNotInD K) := by subst h; exact op_notInD hu
theorem k_indexD (K : PySem.W.Frag) (h : X.K = K) (hu : X.A.units + 65 < cLine) : MtR X "list.index" (rIndexD K) := by subst h; exact mt_indexD hu
end
/-- rows as data -/
def rowD (r : List Int) : PyData := .list (r.map PyData.int)
theorem rows_dp {K : PySem.W.Frag} {H : Hp} : ∀ {as : List Addr} {rows : List (List Int)}, as.length = rows.length → (∀ (i : Nat) (a : Addr) (r : List Int), as[i]? = some a → rows[i]? = some r → H a = some (.lst (r.map V.int))) → DpAll K H (as.map V.ref) (rows.map rowD)
  | [], [], _, _ => .nil
  | [], _ :: _, h, _ => by simp at h
  | _ :: _, [], h, _ => by simp at h
  | a :: as, r :: rows, h, k => .cons (.lst (.inl (.inl (k 0 a r rfl rfl))) (Pre.dp_ints r)) (rows_dp (by simpa using h) fun i t q ht hq => k (i + 1) t q (by simpa using ht) (by simpa using hq))
theorem rowD_eqv (r q : List Int) : PyData.eqv (rowD r) (rowD q) = decide (r = q) := by
  unfold rowD
  rw [PyData.eqv, eqv_ints]
theorem rows_shaped (rows : List (List Int)) : SeqAt.shaped (.list (rows.map rowD)) = true := by
  have h1 : ∀ l : List (List Int), PyData.canLayAll0 (l.map rowD) = true := fun l => by
    induction l with
    | nil => rfl
    | cons r l ih =>
      show (PyData.canLay0 (rowD r) && PyData.canLayAll0 (l.map rowD)) = true
      rw [ih]
      unfold rowD
      rw [PyData.canLay0, lay_ints]
      rfl
  have h2 : ∀ l : List (List Int), PyData.depthAll (l.map rowD) ≤ 1 := fun l => by
    induction l with
    | nil => simp [PyData.depthAll]
    | cons r l ih =>
      show PyData.depthAll (rowD r :: l.map rowD) ≤ 1
      rw [PyData.depthAll]
      unfold rowD at *
      rw [PyData.depth, depth_ints]
      omega
  show (PyData.canLay0 (.list (rows.map rowD)) && decide (PyData.depth (.list (rows.map rowD)) ≤ 64)) = true
  rw [Bool.and_eq_true]
  have := h2 rows
  exact ⟨by rw [PyData.canLay0]; exact h1 rows, decide_eq_true (by rw [PyData.depth]; omega)⟩
end My

namespace My
open PySem PySem.Spec PyProof.Rows L2 Pre
/-! ### min and max of a list of pairs of whole numbers -/
def pairD (p : Int × Int) : PyData := .tuple [.int p.1, .int p.2]
def ltP2 (p q : Int × Int) : Prop := p.1 < q.1 ∨ (p.1 = q.1 ∧ p.2 < q.2)
instance (p q : Int × Int) : Decidable (ltP2 p q) := by unfold ltP2; infer_instance
theorem pair_lt (p q : Int × Int) : PySem.W.dataLt (pairD p) (pairD q) = decide (ltP2 p q) := PySem.W.dataLt_ii p.1 p.2 q.1 q.2
theorem ltP2_trans {p q r : Int × Int} (h : ¬ ltP2 q p) (k : ¬ ltP2 r q) : ¬ ltP2 r p := by
  unfold ltP2 at *
  omega
def minP (p : Int × Int) (ps : List (Int × Int)) : Int × Int := ps.foldl (fun a y => if ltP2 y a then y else a) p
def maxP (p : Int × Int) (ps : List (Int × Int)) : Int × Int := ps.foldl (fun a y => if ltP2 a y then y else a) p
theorem minP_data : ∀ (ps : List (Int × Int)) (p : Int × Int), PySem.W.minD (pairD p) (ps.map pairD) = pairD (minP p ps)
  | [], _ => rfl
  | q :: ps, p => by
    show PySem.W.minD (if PySem.W.dataLt (pairD q) (pairD p) = true then pairD q else pairD p) (ps.map pairD) = pairD (minP (if ltP2 q p then q else p) ps)
    rw [pair_lt]
    by_cases h : ltP2 q p
    · rw [decide_eq_true h, if_pos rfl, if_pos h, minP_data ps q]
    · rw [decide_eq_false h, if_neg (by decide), if_neg h, minP_data ps p]
theorem maxP_data : ∀ (ps : List (Int × Int)) (p : Int × Int), PySem.W.maxD (pairD p) (ps.map pairD) = pairD (maxP p ps)
  | [], _ => rfl
  | q :: ps, p => by
    show PySem.W.maxD (if PySem.W.dataLt (pairD p) (pairD q) = true then pairD q else pairD p) (ps.map pairD) = pairD (maxP (if ltP2 p q then q else p) ps)
    rw [pair_lt]
    by_cases h : ltP2 p q
    · rw [decide_eq_true h, if_pos rfl, if_pos h, maxP_data ps q]
    · rw [decide_eq_false h, if_neg (by decide), if_neg h, maxP_data ps p]
theorem minP_spec : ∀ (ps : List (Int × Int)) (p : Int × Int), minP p ps ∈ p :: ps ∧ ∀ q ∈ p :: ps, ¬ ltP2 q (minP p ps)
  | [], p => ⟨List.mem_cons_self, fun q hq => by
      rw [List.mem_singleton.mp hq]
      show ¬ ltP2 p p
      unfold ltP2
      omega⟩
  | r :: ps, p => by
    show minP (if ltP2 r p then r else p) ps ∈ _ ∧ ∀ q ∈ p :: r :: ps, ¬ ltP2 q (minP (if ltP2 r p then r else p) ps)
    by_cases h : ltP2 r p
    · rw [if_pos h]
      obtain ⟨h1, h2⟩ := minP_spec ps r
      refine ⟨List.mem_cons_of_mem _ h1, fun q hq => ?_⟩
      rcases List.mem_cons.mp hq with rfl | hq
      · have := h2 r List.mem_cons_self
        exact fun z => this (by unfold ltP2 at *; omega)
      · exact h2 q hq
    · rw [if_neg h]
      obtain ⟨h1, h2⟩ := minP_spec ps p
      refine ⟨?_, fun q hq => ?_⟩
      · rcases List.mem_cons.mp h1 with e | e
        · rw [e]; exact List.mem_cons_self
        · exact List.mem_cons_of_mem _ (List.mem_cons_of_mem _ e)
      · rcases List.mem_cons.mp hq with rfl | hq
        · exact h2 q List.mem_cons_self
        · rcases List.mem_cons.mp hq with rfl | hq
          · have := h2 p List.mem_cons_self
            exact fun z => this (by unfold ltP2 at *; omega)
          · exact h2 q (List.mem_cons_of_mem _ hq)
theorem maxP_spec : ∀ (ps : List (Int × Int)) (p : Int × Int), maxP p ps ∈ p :: ps ∧ ∀ q ∈ p :: ps, ¬ ltP2 (maxP p ps) q
  | [], p => ⟨List.mem_cons_self, fun q hq => by
      rw [List.mem_singleton.mp hq]
      show ¬ ltP2 p p
      unfold ltP2
      omega⟩
  | r :: ps, p => by
    show maxP (if ltP2 p r then r else p) ps ∈ _ ∧ ∀ q ∈ p :: r :: ps, ¬ ltP2 (maxP (if ltP2 p r then r else p) ps) q
    by_cases h : ltP2 p r
    · rw [if_pos h]
      obtain ⟨h1, h2⟩ := maxP_spec ps r
      refine ⟨List.mem_cons_of_mem _ h1, fun q hq => ?_⟩
      rcases List.mem_cons.mp hq with rfl | hq
      · have := h2 r List.mem_cons_self
        exact fun z => this (by unfold ltP2 at *; omega)
      · exact h2 q hq
    · rw [if_neg h]
      obtain ⟨h1, h2⟩ := maxP_spec ps p
      refine ⟨?_, fun q hq => ?_⟩
      · rcases List.mem_cons.mp h1 with e | e
        · rw [e]; exact List.mem_cons_self
        · exact List.mem_cons_of_mem _ (List.mem_cons_of_mem _ e)
      · rcases List.mem_cons.mp hq with rfl | hq
        · exact h2 q List.mem_cons_self
        · rcases List.mem_cons.mp hq with rfl | hq
          · have := h2 p List.mem_cons_self
            exact fun z => this (by unfold ltP2 at *; omega)
          · exact h2 q (List.mem_cons_of_mem _ hq)
theorem pairs_alike (ps : List (Int × Int)) : PySem.W.AlikeAll (ps.map pairD) := by
  refine ⟨fun x hx y hy => ?_, fun x hx => ?_⟩
  · obtain ⟨p, _, rfl⟩ := List.mem_map.mp hx
    obtain ⟨q, _, rfl⟩ := List.mem_map.mp hy
    rfl
  · obtain ⟨p, _, rfl⟩ := List.mem_map.mp hx
    exact fun z => nomatch z
theorem pairs_lay : ∀ ps : List (Int × Int), PyData.canLayAll0 (ps.map pairD) = true
  | [] => rfl
  | p :: ps => by simp [PyData.canLayAll0, PyData.canLay0, pairD, pairs_lay ps]
theorem pairs_depth : ∀ ps : List (Int × Int), PyData.depthAll (ps.map pairD) ≤ 2
  | [] => by simp [PyData.depthAll]
  | p :: ps => by
    have := pairs_depth ps
    simp only [List.map_cons, PyData.depthAll, pairD, PyData.depth]
    omega
/-- a list of pairs, at a -/
def PairsAt (K : PySem.W.Frag) (H : Hp) (a : Addr) (ps : List (Int × Int)) : Prop := ∃ as : List Addr, SqL K H a (as.map V.ref) ∧ as.length = ps.length ∧ ∀ (i : Nat) (t : Addr) (p : Int × Int), as[i]? = some t → ps[i]? = some p → SqT K H t [.int p.1, .int p.2]
theorem pairs_dp {K : PySem.W.Frag} {H : Hp} : ∀ {as : List Addr} {ps : List (Int × Int)}, as.length = ps.length → (∀ (i : Nat) (t : Addr) (p : Int × Int), as[i]? = some t → ps[i]? = some p → SqT K H t [.int p.1, .int p.2]) → DpAll K H (as.map V.ref) (ps.map pairD)
  | [], [], _, _ => .nil
  | [], _ :: _, h, _ => by simp at h
  | _ :: _, [], h, _ => by simp at h
  | a :: as, p :: ps, h, k => .cons (.tup (k 0 a p rfl rfl) (.cons (.int _) (.cons (.int _) .nil))) (pairs_dp (by simpa using h) fun i t q ht hq => k (i + 1) t q (by simpa using ht) (by simpa using hq))
def rMnP (K : PySem.W.Frag) (best : Int × Int → List (Int × Int) → Int × Int) : List V → Hp → VK → Prop := fun xs H Q => ∃ (a : Addr) (p : Int × Int) (ps : List (Int × Int)), xs = [.ref a] ∧ PairsAt K H a (p :: ps) ∧ ∀ t, SqT K H t [.int (best p ps).1, .int (best p ps).2] → Q (.ref t) H
section
variable {X : Cx} {K : PySem.W.Frag}
theorem pick {H : Hp} {s : Shared} {as : List Addr} {ps : List (Int × Int)} {its : List Value} {i : Nat} {v : Value} {h' : Heap} {bs cs : List Addr} {b : Int × Int} (hl : as.length = ps.length)
    (hT : ∀ (i : Nat) (t : Addr) (p : Int × Int), as[i]? = some t → ps[i]? = some p → SqT K H t [.int p.1, .int p.2]) (rv : Vals (as.map V.ref) its) (hr : ReadsAll s.heap its (ps.map pairD) cs) (hv : its.toArray[i]? = some v) (rd : Reads h' v (pairD b) bs)
    (hk : ∀ b o, s.heap.get? b = some o → h'.get? b = some o) : ∃ t, v = .ref t ∧ SqT K H t [.int b.1, .int b.2] := by
  have hv' : its[i]? = some v := by simpa using hv
  have hil : i < its.length := (List.getElem?_eq_some_iff.mp hv').1
  have hvl := rv.length
  rw [List.length_map] at hvl
  obtain ⟨u, hu, ru⟩ := rv.get (show (as.map V.ref)[i]? = some (.ref (as[i]'(by omega))) by rw [List.getElem?_map, List.getElem?_eq_getElem (by omega)]; rfl)
  rw [hv'] at hu
  cases hu
  have hp : ps[i]? = some (ps[i]'(by omega)) := List.getElem?_eq_getElem (by omega)
  obtain ⟨ds, r1, _, _, _⟩ := PySem.W.readsAll_at hr i v hv'
  have e1 : (ps.map pairD).getD i .none = pairD (ps[i]'(by omega)) := by
    rw [List.getD_eq_getElem?_getD, List.getElem?_map, hp]
    rfl
  rw [e1] at r1
  have e2 := PySem.SeqAt.Reads.unique (pairD b) _ v _ _ (by simp [pairD, PyData.canLay0, PyData.canLayAll0]) rd (Reads.keeps hk r1)
  have e3 : b = ps[i]'(by omega) := by
    unfold pairD at e2
    injection e2 with e2
    injection e2 with e4 e5
    injection e5 with e5 _
    injection e4 with e4
    injection e5 with e5
    exact Prod.ext e4 e5
  refine ⟨as[i]'(by omega), ru, ?_⟩
  rw [e3]
  exact hT i _ _ (List.getElem?_eq_getElem (by omega)) hp
theorem k_minP (K : PySem.W.Frag) (h : X.K = K) (hc : X.calm = true) (hu : X.A.units + 65 < cLine) : CallR X (.builtin "min") (rMnP K minP) := by
  subst h
  intro pins s σ H xs us Q I r h
  obtain ⟨a, p, ps, rfl, ⟨as, hS, hl, hT⟩, q⟩ := h
  obtain ⟨its, rv, hL, _⟩ := I.list hS
  rw [Vals.ref1 r]
  obtain ⟨cs, hr⟩ := Dp.readsAll I _ _ its (pairs_dp hl hT) rv
  have hd := pairs_depth (p :: ps)
  refine PySem.W.min_list_data (I.ok.hd hc) hL.isList (show ReadsAll s.heap its.toArray.toList (pairD p :: ps.map pairD) cs by simpa using hr) (pairs_alike (p :: ps)) (by rw [List.map_cons] at hd; omega) fun i v h' tk bs hv rd hk => ?_
  rw [minP_data] at rd
  obtain ⟨t, rfl, ht⟩ := pick hl hT rv hr hv rd hk
  exact ⟨.ref t, H, I.kept hk, rfl, q t ht⟩
theorem k_maxP (K : PySem.W.Frag) (h : X.K = K) (hc : X.calm = true) (hu : X.A.units + 65 < cLine) : CallR X (.builtin "max") (rMnP K maxP) := by
  subst h
  intro pins s σ H xs us Q I r h
  obtain ⟨a, p, ps, rfl, ⟨as, hS, hl, hT⟩, q⟩ := h
  obtain ⟨its, rv, hL, _⟩ := I.list hS
  rw [Vals.ref1 r]
  obtain ⟨cs, hr⟩ := Dp.readsAll I _ _ its (pairs_dp hl hT) rv
  have hd := pairs_depth (p :: ps)
  refine PySem.W.max_list_data (I.ok.hd hc) hL.isList (show ReadsAll s.heap its.toArray.toList (pairD p :: ps.map pairD) cs by simpa using hr) (pairs_alike (p :: ps)) (by rw [List.map_cons] at hd; omega) fun i v h' tk bs hv rd hk => ?_
  rw [maxP_data] at rd
  obtain ⟨t, rfl, ht⟩ := pick hl hT rv hr hv rd hk
  exact ⟨.ref t, H, I.kept hk, rfl, q t ht⟩
theorem huM {k : Nat} {A : Around} (r : Room k A) : A.units + 65 < cLine := by have := r.un; omega
end
end My

namespace My
open PySem PySem.Spec PyProof.Rows L2 Pre
/-! ### data in a heap: what is told of a value by lists and tuples that stand there (none of them frozen) -/
mutual
inductive Dt (H : Hp) : V → PyData → Prop
  | non : Dt H .non .none
  | bl (b : Bool) : Dt H (.bl b) (.bool b)
  | int (n : Int) : Dt H (.int n) (.int n)
  | str (x : Str) : Dt H (.str x) (.str x)
  | lst {a : Addr} {xs : List V} {ds : List PyData} : H a = some (.lst xs) → DtA H xs ds → Dt H (.ref a) (.list ds)
  | tup {a : Addr} {xs : List V} {ds : List PyData} : H a = some (.tup xs) → DtA H xs ds → Dt H (.ref a) (.tuple ds)
inductive DtA (H : Hp) : List V → List PyData → Prop
  | nil : DtA H [] []
  | cons {v : V} {vs : List V} {d : PyData} {ds : List PyData} : Dt H v d → DtA H vs ds → DtA H (v :: vs) (d :: ds)
end
mutual
theorem Dt.same {H H' : Hp} (s : Same H H') : ∀ {d : PyData} {v : V}, Dt H v d → Dt H' v d
  | .none, _, h => by cases h; exact .non
  | .bool _, _, h => by cases h; exact .bl _
  | .int _, _, h => by cases h; exact .int _
  | .str _, _, h => by cases h; exact .str _
  | .list _, _, h => by cases h with | lst a b => exact .lst (s _ _ a) (DtA.same s b)
  | .tuple _, _, h => by cases h with | tup a b => exact .tup (s _ _ a) (DtA.same s b)
  | .dict _, _, h => nomatch h
theorem DtA.same {H H' : Hp} (s : Same H H') : ∀ {ds : List PyData} {vs : List V}, DtA H vs ds → DtA H' vs ds
  | [], _, h => by cases h; exact .nil
  | _ :: _, _, h => by cases h with | cons a b => exact .cons (Dt.same s a) (DtA.same s b)
end
mutual
theorem Dt.dp {K : PySem.W.Frag} {H : Hp} : ∀ {d : PyData} {v : V}, Dt H v d → Dp K H v d
  | .none, _, h => by cases h; exact .non
  | .bool _, _, h => by cases h; exact .bl _
  | .int _, _, h => by cases h; exact .int _
  | .str _, _, h => by cases h; exact .str _
  | .list _, _, h => by cases h with | lst a b => exact .lst (.inl (.inl a)) (DtA.dp b)
  | .tuple _, _, h => by cases h with | tup a b => exact .tup (.inl (.inl a)) (DtA.dp b)
  | .dict _, _, h => nomatch h
theorem DtA.dp {K : PySem.W.Frag} {H : Hp} : ∀ {ds : List PyData} {vs : List V}, DtA H vs ds → DpAll K H vs ds
  | [], _, h => by cases h; exact .nil
  | _ :: _, _, h => by cases h with | cons a b => exact .cons (Dt.dp a) (DtA.dp b)
end
theorem DtA.len {H : Hp} : ∀ {ds : List PyData} {vs : List V}, DtA H vs ds → vs.length = ds.length
  | [], _, h => by cases h; rfl
  | _ :: _, _, h => by cases h with | cons a b => rw [List.length_cons, List.length_cons, DtA.len b]
theorem DtA.app {H : Hp} : ∀ {ds : List PyData} {vs : List V} {es : List PyData} {us : List V}, DtA H vs ds → DtA H us es → DtA H (vs ++ us) (ds ++ es)
  | [], _, _, _, h, k => by cases h; exact k
  | _ :: _, _, _, _, h, k => by cases h with | cons a b => exact .cons a (DtA.app b k)
theorem DtA.get {H : Hp} : ∀ {ds : List PyData} {vs : List V} {i : Nat} {d : PyData}, DtA H vs ds → ds[i]? = some d → ∃ v, vs[i]? = some v ∧ Dt H v d
  | [], _, _, _, _, k => by simp at k
  | _ :: _, _, 0, _, h, k => by
    cases h with
    | cons a b => rw [List.getElem?_cons_zero] at k; cases k; exact ⟨_, rfl, a⟩
  | _ :: _, _, i + 1, _, h, k => by
    cases h with
    | cons a b => rw [List.getElem?_cons_succ] at k; rw [List.getElem?_cons_succ]; exact DtA.get b k
theorem DtA.got {H : Hp} {ds : List PyData} {vs : List V} {i : Nat} {v : V} (h : DtA H vs ds) (k : vs[i]? = some v) : ∃ d, ds[i]? = some d ∧ Dt H v d := by
  have hi := (List.getElem?_eq_some_iff.mp k).1
  have hl := h.len
  obtain ⟨u, hu, d⟩ := h.get (List.getElem?_eq_getElem (show i < ds.length by omega))
  rw [k] at hu
  cases hu
  exact ⟨_, List.getElem?_eq_getElem (by omega), d⟩
theorem DtA.take {H : Hp} : ∀ {ds : List PyData} {vs : List V} (n : Nat), DtA H vs ds → DtA H (vs.take n) (ds.take n)
  | _, _, 0, _ => .nil
  | [], _, _ + 1, h => by cases h; exact .nil
  | _ :: _, _, n + 1, h => by cases h with | cons a b => exact .cons a (DtA.take n b)
theorem DtA.drop {H : Hp} : ∀ {ds : List PyData} {vs : List V} (n : Nat), DtA H vs ds → DtA H (vs.drop n) (ds.drop n)
  | _, _, 0, h => h
  | [], _, _ + 1, h => by cases h; exact .nil
  | _ :: _, _, n + 1, h => by cases h with | cons a b => exact DtA.drop n b
theorem DtA.rev {H : Hp} : ∀ {ds : List PyData} {vs : List V}, DtA H vs ds → DtA H vs.reverse ds.reverse
  | [], _, h => by cases h; exact .nil
  | _ :: _, _, h => by
    cases h with
    | cons a b => rw [List.reverse_cons, List.reverse_cons]; exact DtA.app (DtA.rev b) (.cons a .nil)
theorem DtA.ints {H : Hp} : ∀ ns : List Int, DtA H (ns.map V.int) (ns.map PyData.int)
  | [] => .nil
  | n :: r => .cons (.int n) (DtA.ints r)
theorem DtA.intsE {H : Hp} : ∀ {ns : List Int} {vs : List V}, DtA H vs (ns.map PyData.int) → vs = ns.map V.int
  | [], _, h => by cases h; rfl
  | n :: r, _, h => by
    cases h with
    | cons a b => cases a; rw [DtA.intsE b]; rfl
/-- a list of whole numbers -/
theorem Dt.ints {H : Hp} {a : Addr} {ns : List Int} (h : H a = some (.lst (ns.map V.int))) : Dt H (.ref a) (rowD ns) := .lst h (DtA.ints ns)
theorem Dt.intsE {H : Hp} {v : V} {ns : List Int} (h : Dt H v (rowD ns)) : ∃ a, v = .ref a ∧ H a = some (.lst (ns.map V.int)) := by
  unfold rowD at h
  cases h with
  | lst a b => rw [DtA.intsE b] at a; exact ⟨_, rfl, a⟩
theorem Dt.listE {H : Hp} {v : V} {ds : List PyData} (h : Dt H v (.list ds)) : ∃ a xs, v = .ref a ∧ H a = some (.lst xs) ∧ DtA H xs ds := by
  cases h with
  | lst a b => exact ⟨_, _, rfl, a, b⟩
theorem Dt.tupE {H : Hp} {v : V} {ds : List PyData} (h : Dt H v (.tuple ds)) : ∃ a xs, v = .ref a ∧ H a = some (.tup xs) ∧ DtA H xs ds := by
  cases h with
  | tup a b => exact ⟨_, _, rfl, a, b⟩
/-! ### what is owned (and changes) is left out -/
def rs (S : List Addr) (H : Hp) : Hp := fun a => if a ∈ S then none else H a
theorem rs_nil (H : Hp) : rs [] H = H := by funext a; simp [rs]
theorem rs_in {S : List Addr} {H : Hp} {a : Addr} (h : a ∈ S) : rs S H a = none := if_pos h
theorem rs_out {S : List Addr} {H : Hp} {a : Addr} (h : a ∉ S) : rs S H a = H a := if_neg h
theorem rs_some {S : List Addr} {H : Hp} {a : Addr} {o : HO} (h : rs S H a = some o) : a ∉ S ∧ H a = some o := by
  by_cases m : a ∈ S
  · rw [rs_in m] at h; cases h
  · rw [rs_out m] at h; exact ⟨m, h⟩
theorem rs_le {S : List Addr} {H : Hp} : Same (rs S H) H := fun _ _ h => (rs_some h).2
theorem rs_same {S : List Addr} {H H' : Hp} (s : Same H H') : Same (rs S H) (rs S H') := fun b o h => by
  obtain ⟨m, e⟩ := rs_some h
  rw [rs_out m]
  exact s b o e
theorem rs_upd {S : List Addr} {H : Hp} {p : Addr} {o : HO} (h : p ∈ S) : rs S (L2.upd H p o) = rs S H := by
  funext a
  by_cases m : a ∈ S
  · rw [rs_in m, rs_in m]
  · rw [rs_out m, rs_out m, upd_ne (fun e => m (by rw [e]; exact h))]
/-- all of them stand -/
def Has (S : List Addr) (H : Hp) : Prop := ∀ a ∈ S, ∃ o, H a = some o
theorem Has.nil {H : Hp} : Has [] H := fun _ h => nomatch h
theorem Has.same {S : List Addr} {H H' : Hp} (h : Has S H) (s : Same H H') : Has S H' := fun a m => by
  obtain ⟨o, e⟩ := h a m
  exact ⟨o, s a o e⟩
theorem Has.cons {S : List Addr} {H : Hp} {p : Addr} {o : HO} (h : Has S H) (e : H p = some o) : Has (p :: S) H := fun a m => by
  rcases List.mem_cons.mp m with rfl | m
  · exact ⟨o, e⟩
  · exact h a m
theorem Has.upd {S : List Addr} {H : Hp} {p : Addr} {o : HO} (h : Has S H) : Has S (L2.upd H p o) := fun a m => by
  by_cases e : a = p
  · subst e; exact ⟨o, upd_same⟩
  · rw [upd_ne e]; exact h a m
theorem Has.out {S : List Addr} {H : Hp} {p : Addr} (h : Has S H) (n : H p = none) : p ∉ S := fun m => by
  obtain ⟨o, e⟩ := h p m
  rw [n] at e
  cases e
theorem GenAt.has {H : Hp} {g : Addr} {n : Nat} (h : GenAt H g n) : Has [g] H := by
  obtain ⟨x, y, z, e, _⟩ := h
  exact Has.nil.cons e
/-- all but what is owned stays -/
def Sta (S : List Addr) (H H' : Hp) : Prop := Same (rs S H) (rs S H')
theorem Sta.of {S : List Addr} {H H' : Hp} (s : Same H H') : Sta S H H' := rs_same s
theorem Sta.trans {S : List Addr} {H H1 H2 : Hp} (a : Sta S H H1) (b : Sta S H1 H2) : Sta S H H2 := fun c o h => b c o (a c o h)
theorem Sta.at_ {S : List Addr} {H H' : Hp} (s : Sta S H H') {a : Addr} {o : HO} (m : a ∉ S) (h : H a = some o) : H' a = some o := (rs_some (s a o (by rw [rs_out m]; exact h))).2
theorem Sta.upd {S : List Addr} {H : Hp} {p : Addr} {o : HO} (h : p ∈ S) : Sta S H (L2.upd H p o) := fun c u e => by rw [rs_upd h]; exact e
theorem Sta.more {S : List Addr} {H H' : Hp} {p : Addr} (s : Sta S H H') : Sta (p :: S) H H' := fun c o h => by
  obtain ⟨m, e⟩ := rs_some h
  have m2 : c ∉ S := fun z => m (List.mem_cons_of_mem _ z)
  rw [rs_out m]
  exact s.at_ m2 e
theorem But.sta {g : Addr} {H H' : Hp} (b : But g H H') : Sta [g] H H' := fun c o h => by
  obtain ⟨m, e⟩ := rs_some h
  rw [rs_out m]
  exact b c o (fun z => m (by rw [z]; exact List.mem_cons_self)) e
/-- what was there ahead of a new thing does not speak of it -/
theorem under {S : List Addr} {H H' : Hp} {p : Addr} (n : H p = none) (s : Same H H') : Same (rs S H) (rs (p :: S) H') := fun c o h => by
  obtain ⟨m, e⟩ := rs_some h
  rw [rs_out (fun z => by
    rcases List.mem_cons.mp z with rfl | z
    · rw [n] at e; cases e
    · exact m z)]
  exact s c o e
theorem over {S : List Addr} {H : Hp} {p : Addr} : Same (rs (p :: S) H) (rs S H) := fun c o h => by
  obtain ⟨m, e⟩ := rs_some h
  rw [rs_out (fun z => m (List.mem_cons_of_mem _ z))]
  exact e
/-! ### a new list, a new tuple, a sum of lists -/
theorem dt_new {S : List Addr} {H : Hp} {p : Addr} {xs : List V} {ds : List PyData} (hS : Has S H) (n : H p = none) (h : DtA (rs S H) xs ds) : Dt (rs S (upd H p (.lst xs))) (.ref p) (.list ds) :=
  .lst (by rw [rs_out (hS.out n)]; exact upd_same) (h.same (rs_same (same_upd n)))
theorem dt_newT {S : List Addr} {H : Hp} {p : Addr} {xs : List V} {ds : List PyData} (hS : Has S H) (n : H p = none) (h : DtA (rs S H) xs ds) : Dt (rs S (upd H p (.tup xs))) (.ref p) (.tuple ds) :=
  .tup (by rw [rs_out (hS.out n)]; exact upd_same) (h.same (rs_same (same_upd n)))
theorem d_lst {S : List Addr} {H : Hp} {xs : List V} {ds : List PyData} {Q : VK} (hS : Has S H) (h : DtA (rs S H) xs ds) (hz : xs.length ≤ sizeLine) (k : ∀ p H', Same H H' → H p = none → H' p = some (.lst xs) → Dt (rs S H') (.ref p) (.list ds) → Q (.ref p) H') : xs.length ≤ sizeLine ∧ ∀ p, H p = none → Q (.ref p) (upd H p (.lst xs)) :=
  ⟨hz, fun p n => k p _ (same_upd n) n upd_same (dt_new hS n h)⟩
theorem d_tup {S : List Addr} {H : Hp} {xs : List V} {ds : List PyData} {Q : VK} (hS : Has S H) (h : DtA (rs S H) xs ds) (hz : xs.length ≤ sizeLine) (k : ∀ p H', Same H H' → H p = none → H' p = some (.tup xs) → Dt (rs S H') (.ref p) (.tuple ds) → Q (.ref p) H') : xs.length ≤ sizeLine ∧ ∀ p, H p = none → Q (.ref p) (upd H p (.tup xs)) :=
  ⟨hz, fun p n => k p _ (same_upd n) n upd_same (dt_newT hS n h)⟩
theorem d_cat {S : List Addr} {H : Hp} {v w : V} {ds es : List PyData} {Q : VK} (hS : Has S H) (hv : Dt (rs S H) v (.list ds)) (hw : Dt (rs S H) w (.list es)) (hz : ds.length + es.length ≤ sizeLine) (k : ∀ p H', Same H H' → H p = none → Dt (rs S H') (.ref p) (.list (ds ++ es)) → Q (.ref p) H') : rCat v w H Q := by
  obtain ⟨a, xs, rfl, ha, hx⟩ := hv.listE
  obtain ⟨b, ys, rfl, hb, hy⟩ := hw.listE
  exact ⟨a, b, xs, ys, rfl, rfl, (rs_some ha).2, (rs_some hb).2, by rw [hx.len, hy.len]; exact hz, fun p n => k p _ (same_upd n) n (dt_new hS n (hx.app hy))⟩
theorem d_eq {K : PySem.W.Frag} {H : Hp} {v w : V} {d e : PyData} {Q : VK} (hv : Dt H v d) (hw : Dt H w e) (sd : SeqAt.shaped d = true) (se : SeqAt.shaped e = true) (q : Q (.bl (PyData.eqv d e)) H) : rEqD K v w H Q := ⟨d, e, hv.dp, hw.dp, sd, se, q⟩
theorem d_ne {K : PySem.W.Frag} {H : Hp} {v w : V} {d e : PyData} {Q : VK} (hv : Dt H v d) (hw : Dt H w e) (sd : SeqAt.shaped d = true) (se : SeqAt.shaped e = true) (q : Q (.bl (!PyData.eqv d e)) H) : rNeD K v w H Q := ⟨d, e, hv.dp, hw.dp, sd, se, q⟩
/-! ### comprehensions -/
/-- what comes of an item: nothing, or data -/
def Out (S : List Addr) (H : Hp) : Option PyData → Option V → Prop
  | some d, some v => Dt (rs S H) v d
  | none, none => True
  | _, _ => False
def accP (S : List Addr) (H1 : Hp) (D : Addr) (ds : List PyData) (H : Hp) : Prop := Same H1 H ∧ ∃ ys, H D = some (.lst ys) ∧ DtA (rs (D :: S) H) ys ds
theorem acc_step {S : List Addr} {H1 : Hp} {D : Addr} {sel : List (Option PyData)} {i : Nat} {o : Option PyData} {H H4 : Hp} (nD : H1 D = none) (ho : sel[i]? = some o) (hz : sel.length < sizeLine) (h : accP S H1 D ((sel.take i).filterMap id) H) (s4 : Same H H4) :
    ∀ y : Option V, Out (D :: S) H4 o y → match y with
      | some v => ∃ acc, H4 D = some (.lst acc) ∧ acc.length < sizeLine ∧ accP S H1 D ((sel.take (i + 1)).filterMap id) (upd H4 D (.lst (acc ++ [v])))
      | none => accP S H1 D ((sel.take (i + 1)).filterMap id) H4 := by
  obtain ⟨s, ys, hD, hy⟩ := h
  intro y hO
  rw [take_fm ho]
  cases o with
  | none =>
    cases y with
    | none => exact ⟨s.trans s4, ys, s4 _ _ hD, by simpa using hy.same (rs_same s4)⟩
    | some v => exact absurd hO (fun z => z)
  | some d =>
    cases y with
    | none => exact absurd hO (fun z => z)
    | some v =>
      refine ⟨ys, s4 _ _ hD, ?_, same_over nD (s.trans s4), ys ++ [v], upd_same, ?_⟩
      · rw [hy.len]
        exact Nat.lt_of_le_of_lt (fm_len sel i) hz
      · rw [rs_upd List.mem_cons_self]
        exact (hy.same (rs_same s4)).app (.cons hO .nil)
theorem acc_end {S : List Addr} {H1 : Hp} {D : Addr} {ds : List PyData} {H : Hp} (hS : Has S H1) (nD : H1 D = none) (h : accP S H1 D ds H) : Dt (rs S H) (.ref D) (.list ds) := by
  obtain ⟨s, ys, hD, hy⟩ := h
  exact .lst (by rw [rs_out (hS.out nD)]; exact hD) (hy.same over)
theorem lc_dR {lo : Int} {n : Nat} {j : Nat} {tt : TT} {te : TE} {vs : List Nat} {σ : L2.St} {H1 : Hp} {D : Addr} {Qd : Hp → Prop} {S : List Addr} (hS : Has S H1) (sel : List (Option PyData)) (nD : H1 D = none) (hlen : sel.length = n) (hz : n < sizeLine)
    (hw : ∀ x, wipe ((wipe σ vs).set j (some x)) vs = wipe σ vs)
    (hs : ∀ (i : Nat) (o : Option PyData) (H' : Hp), i < n → sel[i]? = some o → Same H1 H' → Has (D :: S) H' → ∀ Qt : Option V → Hp → Prop, (∀ y H'', Same H' H'' → Out (D :: S) H'' o y → Qt y H'') →
      tt ((wipe σ vs).set j (some (.int (lo + (i : Int))))) H' fun b H3 => if b = true then te ((wipe σ vs).set j (some (.int (lo + (i : Int))))) H3 fun y H4 => Qt (some y) H4 else Qt none H3)
    (hd : ∀ H', Same H1 H' → H' D ≠ none → Dt (rs S H') (.ref D) (.list (sel.filterMap id)) → Qd H') :
    ∃ W : Nat → Nat → Hp → Prop, (∃ m, W 0 m (upd H1 D (.lst []))) ∧ ∀ i m H, W i m H →
      ((Itr lo n).stop i H ∧ Qd H) ∨ ((Itr lo n).go i H ∧ ∃ Nx : Hp → Prop, (∀ H', Nx H' → ∃ m', m' < m ∧ W (i + 1) m' H') ∧ ∀ x H', (Itr lo n).yld i H x H' → gName j x (wipe σ vs) H' fun σ2 H2 => wipe σ2 vs = wipe σ vs ∧ tt σ2 H2 fun b H3 =>
        if b = true then te σ2 H3 fun y H4 => ∃ acc, H4 D = some (.lst acc) ∧ acc.length < sizeLine ∧ Nx (upd H4 D (.lst (acc ++ [y]))) else Nx H3) := by
  refine lc_range (lo := lo) (n := n) (fun i H => accP S H1 D ((sel.take i).filterMap id) H) ⟨same_upd nD, [], upd_same, .nil⟩ ?_ ?_
  · rintro i H hi h
    refine ⟨hw _, ?_⟩
    have ho : sel[i]? = some (sel[i]'(by omega)) := List.getElem?_eq_getElem (by omega)
    obtain ⟨s, ys, hD, hy⟩ := id h
    exact hs i _ H hi ho s ((hS.same s).cons hD) (fun o H4 => match o with
      | some y => ∃ acc, H4 D = some (.lst acc) ∧ acc.length < sizeLine ∧ accP S H1 D ((sel.take (i + 1)).filterMap id) (upd H4 D (.lst (acc ++ [y])))
      | none => accP S H1 D ((sel.take (i + 1)).filterMap id) H4) fun y H4 s4 hO => acc_step nD ho (by omega) h s4 y hO
  · rintro H h
    rw [← hlen, List.take_length] at h
    refine hd H h.1 ?_ (acc_end hS nD h)
    obtain ⟨_, ys, hD, _⟩ := h
    rw [hD]
    exact fun z => nomatch z
theorem lc_dL {K : PySem.W.Frag} {a : Addr} {xs : List V} {j : Nat} {tt : TT} {te : TE} {vs : List Nat} {σ : L2.St} {H1 : Hp} {D : Addr} {Qd : Hp → Prop} {S : List Addr} (hS : Has S H1) (sel : List (Option PyData)) (nD : H1 D = none) (hA : SqL K H1 a xs) (hlen : sel.length = xs.length) (hz : xs.length < sizeLine)
    (hw : ∀ x, wipe ((wipe σ vs).set j (some x)) vs = wipe σ vs)
    (hs : ∀ (i : Nat) (x : V) (o : Option PyData) (H' : Hp), xs[i]? = some x → sel[i]? = some o → Same H1 H' → Has (D :: S) H' → ∀ Qt : Option V → Hp → Prop, (∀ y H'', Same H' H'' → Out (D :: S) H'' o y → Qt y H'') →
      tt ((wipe σ vs).set j (some x)) H' fun b H3 => if b = true then te ((wipe σ vs).set j (some x)) H3 fun y H4 => Qt (some y) H4 else Qt none H3)
    (hd : ∀ H', Same H1 H' → H' D ≠ none → Dt (rs S H') (.ref D) (.list (sel.filterMap id)) → Qd H') :
    ∃ W : Nat → Nat → Hp → Prop, (∃ m, W 0 m (upd H1 D (.lst []))) ∧ ∀ i m H, W i m H →
      ((Itl K a).stop i H ∧ Qd H) ∨ ((Itl K a).go i H ∧ ∃ Nx : Hp → Prop, (∀ H', Nx H' → ∃ m', m' < m ∧ W (i + 1) m' H') ∧ ∀ x H', (Itl K a).yld i H x H' → gName j x (wipe σ vs) H' fun σ2 H2 => wipe σ2 vs = wipe σ vs ∧ tt σ2 H2 fun b H3 =>
        if b = true then te σ2 H3 fun y H4 => ∃ acc, H4 D = some (.lst acc) ∧ acc.length < sizeLine ∧ Nx (upd H4 D (.lst (acc ++ [y]))) else Nx H3) := by
  refine lc_list (K := K) (a := a) (xs := xs) (fun i H => accP S H1 D ((sel.take i).filterMap id) H) ⟨same_upd nD, [], upd_same, .nil⟩ (fun i H _ p => p.1.seq hA) ?_ ?_
  · rintro i x H hx h
    refine ⟨hw _, ?_⟩
    have hi := (List.getElem?_eq_some_iff.mp hx).1
    have ho : sel[i]? = some (sel[i]'(by omega)) := List.getElem?_eq_getElem (by omega)
    obtain ⟨s, ys, hD, hy⟩ := id h
    exact hs i x _ H hx ho s ((hS.same s).cons hD) (fun o H4 => match o with
      | some y => ∃ acc, H4 D = some (.lst acc) ∧ acc.length < sizeLine ∧ accP S H1 D ((sel.take (i + 1)).filterMap id) (upd H4 D (.lst (acc ++ [y])))
      | none => accP S H1 D ((sel.take (i + 1)).filterMap id) H4) fun y H4 s4 hO => acc_step nD ho (by omega) h s4 y hO
  · rintro H h
    rw [← hlen, List.take_length] at h
    refine hd H h.1 ?_ (acc_end hS nD h)
    obtain ⟨_, ys, hD, _⟩ := h
    rw [hD]
    exact fun z => nomatch z
/-- maps: each item's data -/
theorem sel_map {α : Type} (l : List α) (f : α → PyData) : (l.map fun x => some (f x)).filterMap id = l.map f := by
  induction l with
  | nil => rfl
  | cons x l ih =>
    show f x :: (l.map fun x => some (f x)).filterMap id = _
    rw [ih]
    rfl
/-- over any walk -/
theorem lc_dW {J : It} {n : Nat} {G : Hp → Prop} {Y : Nat → Hp → V → Hp → Prop} (w : Walk J n G Y) {g : TG} {tt : TT} {te : TE} {vs : List Nat} {σ : L2.St} {H1 : Hp} {D : Addr} {Qd : Hp → Prop} {S : List Addr} (hS : Has S H1) (sel : List (Option PyData)) (nD : H1 D = none) (hlen : sel.length = n) (hz : n < sizeLine)
    (hG : ∀ H', Same H1 H' → G H')
    (hs : ∀ (i : Nat) (o : Option PyData) (H0 : Hp) (x : V) (H' : Hp), i < n → sel[i]? = some o → Same H1 H0 → Has (D :: S) H0 → Y i H0 x H' → ∀ Qt : Option V → Hp → Prop, (∀ y H'', Same H0 H'' → Out (D :: S) H'' o y → Qt y H'') →
      g x (wipe σ vs) H' fun σ2 H2 => wipe σ2 vs = wipe σ vs ∧ tt σ2 H2 fun b H3 => if b = true then te σ2 H3 fun y H4 => Qt (some y) H4 else Qt none H3)
    (hd : ∀ H', Same H1 H' → H' D ≠ none → Dt (rs S H') (.ref D) (.list (sel.filterMap id)) → Qd H') :
    ∃ W : Nat → Nat → Hp → Prop, (∃ m, W 0 m (upd H1 D (.lst []))) ∧ ∀ i m H, W i m H →
      (J.stop i H ∧ Qd H) ∨ (J.go i H ∧ ∃ Nx : Hp → Prop, (∀ H', Nx H' → ∃ m', m' < m ∧ W (i + 1) m' H') ∧ ∀ x H', J.yld i H x H' → g x (wipe σ vs) H' fun σ2 H2 => wipe σ2 vs = wipe σ vs ∧ tt σ2 H2 fun b H3 =>
        if b = true then te σ2 H3 fun y H4 => ∃ acc, H4 D = some (.lst acc) ∧ acc.length < sizeLine ∧ Nx (upd H4 D (.lst (acc ++ [y]))) else Nx H3) := by
  refine lc_it w (fun i H => accP S H1 D ((sel.take i).filterMap id) H) ⟨same_upd nD, [], upd_same, .nil⟩ (fun i H _ p => hG H p.1) ?_ ?_
  · rintro i x H H' hi h y
    have ho : sel[i]? = some (sel[i]'(by omega)) := List.getElem?_eq_getElem (by omega)
    obtain ⟨s, ys, hD, hy⟩ := id h
    exact hs i _ H x H' hi ho s ((hS.same s).cons hD) y (fun o H4 => match o with
      | some y => ∃ acc, H4 D = some (.lst acc) ∧ acc.length < sizeLine ∧ accP S H1 D ((sel.take (i + 1)).filterMap id) (upd H4 D (.lst (acc ++ [y])))
      | none => accP S H1 D ((sel.take (i + 1)).filterMap id) H4) fun y H4 s4 hO => acc_step nD ho (by omega) h s4 y hO
  · rintro H h
    rw [← hlen, List.take_length] at h
    refine hd H h.1 ?_ (acc_end hS nD h)
    obtain ⟨_, ys, hD, _⟩ := h
    rw [hD]
    exact fun z => nomatch z
theorem dt_pairs {K : PySem.W.Frag} {H : Hp} {a : Addr} {ps : List (Int × Int)} (h : Dt H (.ref a) (.list (ps.map pairD))) : PairsAt K H a ps := by
  cases h with
  | lst ha hx =>
    rename_i xs
    have key : ∀ (ps : List (Int × Int)) (xs : List V), DtA H xs (ps.map pairD) → ∃ as : List Addr, xs = as.map V.ref ∧ as.length = ps.length ∧ ∀ (i : Nat) (t : Addr) (p : Int × Int), as[i]? = some t → ps[i]? = some p → SqT K H t [.int p.1, .int p.2] := fun ps => by
      induction ps with
      | nil => intro xs h; cases h; exact ⟨[], rfl, rfl, fun i t p ht => by simp at ht⟩
      | cons p ps ih =>
        intro xs h
        cases h with
        | cons b c =>
          obtain ⟨as, rfl, hl, k⟩ := ih _ c
          obtain ⟨t, ys, rfl, ht, hy⟩ := (show Dt H _ (.tuple [.int p.1, .int p.2]) from b).tupE
          rw [DtA.intsE (ns := [p.1, p.2]) hy] at ht
          refine ⟨t :: as, rfl, by rw [List.length_cons, List.length_cons, hl], fun i u q hu hq => ?_⟩
          cases i with
          | zero =>
            rw [List.getElem?_cons_zero] at hu hq
            cases hu
            cases hq
            exact .inl (.inl ht)
          | succ i =>
            rw [List.getElem?_cons_succ] at hu hq
            exact k i u q hu hq
    obtain ⟨as, rfl, hl, k⟩ := key ps xs hx
    exact ⟨as, .inl (.inl ha), hl, k⟩
end My

namespace My
open PySem PySem.Spec PyProof.Rows L2 Pre
/-! ### set(a list of whole numbers) -/
/-- a set just made -/
abbrev sE (w : World) : Obj := { cls := .type "set", dict := none, data := .set #[] 0 (.fresh 0 0 (!w.params.followText "set-order")) }
section
variable {P : Program} {w : World} {A : Around} {E : Value → Shared → Prop} {s : Shared}
/-- all that stood ahead stands -/
def Ahead (h h' : Heap) : Prop := ∀ b o, h.get? b = some o → h'.get? b = some o
set_option maxHeartbeats 8000000 in
theorem set_of_list {l : Addr} {its : Array Value} (ns : List Int) {Q : Value → Shared → Prop} (calm : A.handled = none) (lst : s.heap.IsList l its) (are : IntsAre its.toList ns) (few : ns.length + 1 < scanBound)
    (fin : ∀ (h' : Heap) (tk c : Nat), SetR w h' s.heap.objs.size (fun j => decide (j ∈ ns)) c → c ≤ ns.length → Ahead s.heap h' → Q (.ref s.heap.objs.size) { s with heap := h', toks := tk }) :
    wpAny (model P w) A (call (.type "set") [.ref l]) Q E s := by
  have size : its.size = ns.length := (Array.length_toList (xs := its)).symm.trans are.length
  obtain ⟨c0, tl, hmro⟩ := F.called_set.mro; have hmade := F.called_set.made; have hsub := F.called_set.sub; have hlt := F.called_set.notType; have hcr := F.called_set.canCreate; have hct := F.typeCall_set_1 (.ref l)
  refine wpAny_call (codeAny_of_tree ?_); show wpAny _ _ (callAny (.type "set") _) _ _ _
  refine wpAny_pure ⟨Code.quiet_builtin _ (by decide +kernel), codeAny_builtin F.entry_type_call ?_⟩; rw [Around.under_plain (weight_type_call_type "set" [.ref l] []) rfl]
  repeat (any_goals (first | assumption | wp_step))
  let top := s.heap.objs.size
  let h1 := s.heap.push (sE w)
  refine codeAny_mono (code_set_led1 (.ref l) (E := E) (Q₁ := fun x t => x = .ref top ∧ t = { s with heap := h1 }) ⟨rfl, rfl⟩) fun r t hr => ?_
  rcases r with e | fl
  · exact hr
  cases fl with
  | ret x =>
    obtain ⟨rfl, rfl⟩ := hr
    have new : h1.get? top = some (sE w) := Heap.get?_push_size _ rfl
    have isSet : Shared.TypeIs { s with heap := h1 } (.ref top) "set" := ⟨_, new, rfl⟩
    have hli := F.called_set.init.lookup; have hbi := F.called_set.init.bind (.ref top)
    repeat (any_goals (first | assumption | wp_step))
    refine codeAny_mono (codeAny_call_builtin (R := wants (fun y u => y = .none ∧ ∃ h' tk c, u = { s with heap := h', toks := tk } ∧ SetR w h' top (fun j => decide (j ∈ ns)) c ∧ c ≤ ns.length ∧ Ahead s.heap h') E) F.called_set.init.plain F.entry_set_init (check_set_init_1 isSet ?_)) fun r2 u hu => ?_
    · obtain ⟨⟨oc, od, ot, os⟩, at_l, cl, nl, dl⟩ := lst
      simp only at cl dl; subst cl; subst dl
      have at1 : h1.get? l = some { cls := .type "list", dict := od, data := .seq its nl, slots := os } := Heap.get?_push_of_some _ at_l
      have n1 := F.sub_list_set; have n2 := F.sub_list_frozenset; have n3 : (Value.type "list" == Value.type "dict") = false := by decide
      have lst1 : h1.IsList l its := ⟨_, at1, rfl, nl, rfl⟩
      unfold Builtin.«set.__init__» noKeywords Builtin.Frozenset.updateFrom; generalize eI : pyIter = I
      wp_walk
      subst eI
      refine wpAny_pyIter_list lst1 ?_; refine wpAny_bind (wpAny_runValue ?_)
      have lt := Heap.lt_size at_l
      have calm3 : A.in1.in1.in1.handled = none := by simp [calm]
      have hz : h1.objs.size = top + 1 := Heap.size_push ..
      have apart : l ≠ h1.objs.size := by rw [hz]; exact Nat.ne_of_lt (Nat.lt_succ_of_lt lt)
      have notin : top ∉ [h1.objs.size, l] := by
        rw [hz]; intro z
        rcases List.mem_cons.mp z with z | z
        · omega
        · have := List.mem_singleton.mp z; exact Nat.lt_irrefl l (by rw [← this] at lt ⊢; exact lt)
      have each : ∀ (i : Nat) (v : Value), its[i]? = some v → ∃ k t, ns[i]? = some k ∧ v = .int k t := fun i v hv => by
        have hi := (Array.getElem?_eq_some_iff.mp hv).1; rw [size] at hi
        obtain ⟨t, e⟩ := IntsAre.int_at are i v ((Array.getElem?_toList (xs := its)).trans hv)
        exact ⟨ns[i], t, List.getElem?_eq_getElem hi, by rw [e, List.getD_eq_getElem?_getD, List.getElem?_eq_getElem hi]; rfl⟩
      refine set_update_ints ((Walks.list calm3 _ l apart its).toS) top notin ns size few each (its.size - 0) 0 _ (by omega) (Nat.zero_le _) ⟨⟨_, Heap.get?_push_size _ rfl, rfl, rfl⟩, (lst1.push _)⟩ ⟨0, Nat.le_refl 0, setR_new_at (Heap.get?_push_of_some _ new)⟩ fun s2 c mv hc set2 => ?_
      have es : s2 = { s with heap := s2.heap, toks := s2.toks } := by
        obtain ⟨a1, a2, a3, a4, a5⟩ := s2
        obtain rfl : a2 = s.gens := mv.gens
        obtain rfl : a3 = s.drawn := mv.drawn
        obtain rfl : a5 = s.os := mv.os
        rfl
      rw [size] at hc
      show wpAny _ _ _ _ _ _
      refine wpAny_pure ?_
      show wpAny _ _ (ret Value.none) _ _ _
      refine wpAny_pure ⟨rfl, s2.heap, s2.toks, c, es, set2, hc, fun b o e => mv.heap b o (fun z => ?_) (Heap.get?_push_of_some _ (Heap.get?_push_of_some _ e))⟩
      have lb := Heap.lt_size e
      rcases List.mem_cons.mp z with z | z
      · exact Nat.lt_irrefl _ (by rw [z] at lb; exact lb)
      · rw [List.mem_singleton.mp z, hz] at lb; exact absurd lb (by show ¬ top + 1 < top; omega)
    · rcases r2 with e | fl2
      · exact hu
      cases fl2 with
      | ret y =>
        obtain ⟨rfl, h', tk, c, rfl, a1, a2, a3⟩ := hu
        repeat (any_goals (first | assumption | wp_step))
        exact fin _ _ _ a1 a2 a3
      | _ => exact hu.elim
  | _ => exact hr.elim
end
section
variable {X : Cx}
def rSetL (K : PySem.W.Frag) (w : World) : List V → Hp → VK → Prop := fun xs H Q => ∃ (l : Addr) (ns : List Int), xs = [.ref l] ∧ SqL K H l (ns.map V.int) ∧ ns.length ≤ 1000 ∧ ∀ p c, H p = none → c ≤ ns.length → Q (.ref p) (upd H p (SetO w p (fun j => decide (j ∈ ns)) c))
theorem k_setL (K : PySem.W.Frag) (h : X.K = K) (hc : X.calm = true) : CallR X (.type "set") (rSetL K X.w) := by
  subst h
  intro pins s σ H xs us Q I r h
  obtain ⟨l, ns, rfl, hl, hz, q⟩ := h
  rw [Vals.ref1 r]
  obtain ⟨its, rv, pl, _⟩ := I.list hl
  have are : IntsAre its.toArray.toList ns := ints_of_vals rv
  exact set_of_list ns (I.ok.hd hc) pl.isList are (by unfold scanBound; omega) fun h' tk c R le kp => ⟨.ref _, _, I.laid (t' := tk) kp (Nat.le_refl _) (setO_new R), rfl, q _ c (I.hok.fresh (Nat.le_refl _)) le⟩
/-- sorted(a set of whole numbers) -/
theorem k_sortedSet (h : X.calm = true) : CallR X (.builtin "sorted") (rSortedSet X.w) := cr_sortedSet h
/-- not in a range -/
theorem op_notin_rng : OpR X (compareOp .NotIn) (fun x y H Q => ∃ i a lo hi, x = V.int i ∧ y = V.ref a ∧ H a = some (.rng lo hi) ∧ Q (.bl (!decide (lo ≤ i ∧ i < hi))) H) := by
  intro pins s σ H x y v u Q I rx ry h
  obtain ⟨i, a, lo, hi, rfl, rfl, ha, q⟩ := h
  obtain ⟨k, rfl⟩ := rx
  obtain rfl : u = Value.ref a := ry
  obtain ⟨t1, t2, t3, ho⟩ := I.hok a _ ha
  show wpAny _ _ (do return Value.bool (!(← contains (Value.ref a) (Value.int i k)))) _ _ s
  refine wpAny_bind (wpAny_contains_slot (T := "range") ⟨_, ho, rfl⟩ F.slot_range_contains (call_meets F.slot_range_contains ⟨_, ho, rfl⟩ F.entry_range_contains (F.args_range_contains_2 _ _) (q_contains a lo hi i t1 t2 t3 k) ⟨ho, wpAny_truthy_bool (wpAny_pure ⟨.bl _, H, I, rfl, ?_⟩)⟩))
  rw [place1]; exact q
variable {a b c d : Expr} {ta tb tc td : TE} {pos : Pos} {o1 o2 o3 : CmpOp} {r1 r2 r3 : R2}
def tChain3 (r1 r2 r3 : R2) (ta tb tc td : TE) : TE := fun σ H Q => ta σ H fun x H1 => tb σ H1 fun y H2 => r1 x y H2 fun z H3 => ∃ k, z = .bl k ∧ (if k = true then tc σ H3 fun u H4 => r2 y u H4 fun z2 H5 => ∃ k2, z2 = .bl k2 ∧ (if k2 = true then td σ H5 fun v H6 => r3 u v H6 Q else Q (.bl false) H5) else Q (.bl false) H3)
theorem pe_chain3 (h1 : OpR X (compareOp o1) r1) (h2 : OpR X (compareOp o2) r2) (h3 : OpR X (compareOp o3) r3) (ha : PE X a ta) (hb : PE X b tb) (hc : PE X c tc) (hd : PE X d td)
    (hm : lastMarks [o1, o2, o3] [b, c, d] = false := by with_unfolding_all rfl) : PE X (.Compare a [o1, o2, o3] [b, c, d] pos) (tChain3 r1 r2 r3 ta tb tc td) := by
  refine ⟨fun pins s σ H Q I h => Compare_chain (thn (ha.run pins s σ H _ I h) fun v s1 ⟨x, H1, I1, rx, q1⟩ => chain_link (thn (hb.run pins s1 σ H1 _ I1 q1) fun u s2 ⟨y, H2, I2, ry, q2⟩ => thn (h1 pins s2 σ H2 x y v u _ I2 rx ry q2) fun _ s3 ⟨_, H3, I3, rz, k, e, q3⟩ => ?_)) hm⟩
  subst e; cases rz; refine wpAny_truthy_bool ?_
  cases k
  · exact ite_ff ⟨.bl false, H3, I3, rfl, q3⟩
  refine ite_tt (chain_link (thn (hc.run pins s3 σ H3 _ I3 q3) fun w' s4 ⟨z', H4, I4, r4, q4⟩ => thn (h2 pins s4 σ H4 y z' u w' _ I4 ry r4 q4) fun _ s5 ⟨_, H5, I5, rz, k2, e, q5⟩ => ?_))
  subst e; cases rz; refine wpAny_truthy_bool ?_
  cases k2
  · exact ite_ff ⟨.bl false, H5, I5, rfl, q5⟩
  exact ite_tt (chain_last (thn (hd.run pins s5 σ H5 _ I5 q5) fun v6 s6 ⟨z6, H6, I6, r6, q6⟩ => h3 pins s6 σ H6 z' z6 w' v6 Q I6 r4 r6 q6))
theorem pt_chain3 (h1 : OpR X (compareOp o1) r1) (h2 : OpR X (compareOp o2) r2) (h3 : OpR X (compareOp o3) r3) (ha : PE X a ta) (hb : PE X b tb) (hc : PE X c tc) (hd : PE X d td)
    (hm : lastMarks [o1, o2, o3] [b, c, d] = false := by with_unfolding_all rfl) : PT X (.Compare a [o1, o2, o3] [b, c, d] pos) (tTest (tChain3 r1 r2 r3 ta tb tc td)) := by
  refine ⟨fun pins s σ H Q I h => isTrue_chain (thn (ha.run pins s σ H _ I h) fun v s1 ⟨x, H1, I1, rx, q1⟩ => test_link (thn (hb.run pins s1 σ H1 _ I1 q1) fun u s2 ⟨y, H2, I2, ry, q2⟩ => thn (h1 pins s2 σ H2 x y v u _ I2 rx ry q2) fun _ s3 ⟨_, H3, I3, rz, k, e, q3⟩ => ?_)) hm⟩
  subst e; cases rz; refine wpAny_truthy_bool ?_
  cases k
  · obtain ⟨k', e', q'⟩ := q3; cases e'; exact ite_ff ⟨H3, I3, q'⟩
  refine ite_tt (test_link (thn (hc.run pins s3 σ H3 _ I3 q3) fun w' s4 ⟨z', H4, I4, r4, q4⟩ => thn (h2 pins s4 σ H4 y z' u w' _ I4 ry r4 q4) fun _ s5 ⟨_, H5, I5, rz, k2, e, q5⟩ => ?_))
  subst e; cases rz; refine wpAny_truthy_bool ?_
  cases k2
  · obtain ⟨k', e', q'⟩ := q5; cases e'; exact ite_ff ⟨H5, I5, q'⟩
  refine ite_tt (test_last (thn (hd.run pins s5 σ H5 _ I5 q5) fun v6 s6 ⟨z6, H6, I6, r6, q6⟩ => thn (h3 pins s6 σ H6 z' z6 w' v6 _ I6 r4 r6 q6) fun _ s7 ⟨_, H7, I7, rz, k3, e, q7⟩ => ?_))
  subst e; cases rz; exact wpAny_truthy_bool ⟨H7, I7, q7⟩
end
end My

namespace My
open PySem PySem.Spec PyProof.Rows L2 Pre
/-! ### texts of bits -/
def sgn (b : Bool) : Nat := if b = true then 49 else 48
def bS (bs : List Bool) : Str := ⟨(bs.map sgn).toArray⟩
theorem bS_len (bs : List Bool) : (bS bs).length = bs.length := by simp [bS, Str.length]
theorem bS_size (bs : List Bool) : (bS bs).cps.size = bs.length := by simp [bS]
theorem bS_app (a b : List Bool) : bS a ++ bS b = bS (a ++ b) := by
  show (⟨(bS a).cps ++ (bS b).cps⟩ : Str) = _
  unfold bS
  rw [List.map_append, List.append_toArray]
theorem sgn_inj {a b : Bool} (h : sgn a = sgn b) : a = b := by cases a <;> cases b <;> first | rfl | (simp [sgn] at h)
theorem bS_inj {a b : List Bool} (h : bS a = bS b) : a = b := by
  have e : a.map sgn = b.map sgn := by
    have := congrArg (fun z : Str => z.cps.toList) h
    simpa [bS] using this
  induction a generalizing b with
  | nil => cases b with
    | nil => rfl
    | cons _ _ => simp at e
  | cons x r ih => cases b with
    | nil => simp at e
    | cons y q =>
      rw [List.map_cons, List.map_cons, List.cons.injEq] at e
      have hr : bS r = bS q := by
        have z : r.map sgn = q.map sgn := e.2
        unfold bS
        rw [z]
      rw [sgn_inj e.1, ih hr e.2]
theorem bS_at {bs : List Bool} {i c : Nat} (h : (bS bs).cps[i]? = some c) : ∃ b, bs[i]? = some b ∧ (⟨#[c]⟩ : Str) = bS [b] := by
  have e : (bs.map sgn)[i]? = some c := by
    unfold bS at h
    rw [← h]
    simp
  rw [List.getElem?_map] at e
  obtain ⟨b, hb, rfl⟩ := Option.map_eq_some_iff.mp e
  exact ⟨b, hb, rfl⟩
theorem bS_atI {bs : List Bool} {i : Nat} {b : Bool} (h : bs[i]? = some b) : atI (bS bs).cps.toList (i : Int) = some (sgn b) := by
  refine atI_nat ?_
  unfold bS
  simp [h]
theorem bS_one (b : Bool) : (⟨#[sgn b]⟩ : Str) = bS [b] := rfl
theorem str_one : (("1" : String) : Str) = bS [true] := by decide +kernel
theorem str_nil : (("" : String) : Str) = bS [] := by decide +kernel
theorem str_zero : (("0" : String) : Str) = bS [false] := by decide +kernel
theorem dec_bS (a b : List Bool) : decide (V.str (bS a) = V.str (bS b)) = decide (a = b) := by
  by_cases h : a = b
  · subst h; simp
  · rw [decide_eq_false h, decide_eq_false]
    exact fun z => h (bS_inj (V.str.inj z))
theorem one_sign (b : Bool) : decide (V.str (bS [b]) = V.str (("1" : String) : Str)) = b := by
  rw [str_one, dec_bS]
  cases b <;> rfl
theorem reps_list (c : List Nat) : ∀ (k : Nat) (acc : List Nat), (List.replicate k c.toArray).foldl (· ++ ·) acc.toArray = (acc ++ (List.replicate k c).flatten).toArray
  | 0, acc => by simp
  | k + 1, acc => by
    rw [List.replicate_succ, List.foldl_cons, List.append_toArray, reps_list c k, List.replicate_succ, List.flatten_cons, List.append_assoc]
theorem bS_mul (k : Nat) : Txt.mul (("0" : String) : Str) (k : Int) = bS (List.replicate k false) := by
  rw [str_zero]
  unfold Txt.mul
  by_cases h0 : (k : Int) < 1
  · rw [if_pos h0, show k = 0 by omega]
    rfl
  · rw [if_neg h0]
    by_cases h1 : k = 1
    · subst h1
      rfl
    · rw [if_neg (by
        rw [Bool.or_eq_true, beq_iff_eq, beq_iff_eq, bS_len]
        simp
        omega), Int.toNat_natCast]
      have := reps_list [48] k []
      unfold bS
      rw [List.map_replicate]
      show (⟨(List.replicate k ([48] : List Nat).toArray).foldl (· ++ ·) ([] : List Nat).toArray⟩ : Str) = _
      rw [this, List.nil_append]
      have e : (List.replicate k [48]).flatten = List.replicate k 48 := by
        clear this h0 h1
        induction k with
        | zero => rfl
        | succ k ih => rw [List.replicate_succ, List.flatten_cons, ih, List.replicate_succ]; rfl
      rw [e]
      rfl
theorem join_bits (bs : List Bool) : Txt.join (("" : String) : Str) (bs.map fun b => bS [b]) = bS bs := by
  rw [TL.join_eq]
  have e0 : TL.tl ((("" : String) : Str)) = [] := by rw [str_nil]; rfl
  have key : ∀ bs : List Bool, TL.joinL [] ((bs.map fun b => bS [b]).map TL.tl) = bs.map sgn := by
    intro bs
    induction bs with
    | nil => rfl
    | cons b r ih =>
      cases r with
      | nil => rfl
      | cons c q =>
        show TL.tl (bS [b]) ++ ([] ++ TL.joinL [] (((c :: q).map fun b => bS [b]).map TL.tl)) = _
        rw [ih]
        rfl
  have h := TL.tl_join (("" : String) : Str) (bs.map fun b => bS [b])
  rw [e0, key] at h
  unfold bS
  rw [← h]
  exact (TL.mk_tl _).symm
section
variable {X : Cx}
def rRepS : R2 := fun x y H Q => ∃ (z : Str) (n : Nat), x = .str z ∧ y = .int n ∧ z.length ≤ 100 ∧ n ≤ 10000 ∧ Q (.str (Txt.mul z n)) H
theorem op_rep_str : OpR X (binaryOp .Mult) rRepS := by
  intro pins s σ H x y v u Q I rx ry h
  obtain ⟨z, n, rfl, rfl, hz, hn, q⟩ := h
  obtain ⟨t, rfl⟩ := rx
  obtain ⟨t', rfl⟩ := ry
  exact PySem.SB.mul (mulOk_of 100 10000 hz (by omega) (by omega) (by decide) (by decide)) fun t' k => ⟨.str (Txt.mul z n), H, I.tok _, ⟨_, rfl⟩, q⟩
end
end My

namespace My
/-! ### folds in bits, read one by one -/
def vF (a : Nat) (bs : List Bool) : Nat := bs.foldl (fun n b => 2 * n + b.toNat) a
theorem vF_nil (a : Nat) : vF a [] = a := rfl
theorem vF_cons (a : Nat) (b : Bool) (r : List Bool) : vF a (b :: r) = vF (2 * a + b.toNat) r := rfl
theorem vF_app (a : Nat) (x y : List Bool) : vF a (x ++ y) = vF (vF a x) y := by unfold vF; rw [List.foldl_append]
theorem vF_eq (a : Nat) (bs : List Bool) : vF a bs = a * 2 ^ bs.length + vF 0 bs := by
  induction bs generalizing a with
  | nil => simp [vF]
  | cons b r ih =>
    rw [vF_cons, ih, vF_cons, ih (2 * 0 + b.toNat), List.length_cons, Nat.pow_succ, Nat.add_mul]
    have : 2 * a * 2 ^ r.length = a * (2 ^ r.length * 2) := by rw [Nat.mul_comm 2 a, Nat.mul_assoc, Nat.mul_comm 2]
    simp only [Nat.mul_zero, Nat.zero_add]
    omega
theorem vF_lt (bs : List Bool) : vF 0 bs < 2 ^ bs.length := by
  induction bs with
  | nil => simp [vF]
  | cons b r ih =>
    rw [vF_cons, vF_eq, List.length_cons, Nat.pow_succ]
    cases b <;> simp <;> omega
theorem vF_mono {a b : Nat} (h : a ≤ b) (bs : List Bool) : vF a bs ≤ vF b bs := by
  rw [vF_eq a, vF_eq b]
  have := Nat.mul_le_mul_right (2 ^ bs.length) h
  omega
theorem vF_ge (a : Nat) (bs : List Bool) : a ≤ vF a bs := by
  rw [vF_eq]
  have : a * 1 ≤ a * 2 ^ bs.length := Nat.mul_le_mul_left a (Nat.one_le_two_pow)
  omega
theorem vF_inj : ∀ {x y : List Bool}, x.length = y.length → vF 0 x = vF 0 y → x = y
  | [], [], _, _ => rfl
  | [], _ :: _, h, _ => nomatch h
  | _ :: _, [], h, _ => nomatch h
  | a :: x, b :: y, h, e => by
    have hl : x.length = y.length := Nat.succ.inj h
    rw [vF_cons, vF_cons, vF_eq (2 * 0 + a.toNat), vF_eq (2 * 0 + b.toNat), hl] at e
    have h1 := vF_lt x
    have h2 := vF_lt y
    rw [hl] at h1
    cases a <;> cases b <;> simp at e
    · rw [vF_inj hl e]
    · omega
    · omega
    · rw [vF_inj hl e]
/-- the low bits of a number, the high ones first -/
def bB (n : Nat) : Nat → List Bool
  | 0 => []
  | k + 1 => (n / 2 ^ k % 2 == 1) :: bB n k
theorem bB_len (n : Nat) : ∀ k, (bB n k).length = k
  | 0 => rfl
  | k + 1 => by unfold bB; rw [List.length_cons, bB_len n k]
theorem bB_val (n : Nat) : ∀ k, vF 0 (bB n k) = n % 2 ^ k
  | 0 => by simp [bB, vF, Nat.mod_one]
  | k + 1 => by
    unfold bB
    rw [vF_cons, vF_eq, bB_val n k, bB_len, Nat.pow_succ, Nat.mod_mul]
    rcases Nat.mod_two_eq_zero_or_one (n / 2 ^ k) with h | h <;> rw [h] <;> simp <;> omega
theorem bB_of (m : Nat) (bs : List Bool) : bB (m * 2 ^ bs.length + vF 0 bs) bs.length = bs := by
  refine vF_inj (bB_len _ _) ?_
  rw [bB_val, Nat.mul_add_mod_of_lt' (vF_lt bs)]
where
  Nat.mul_add_mod_of_lt' {a b c : Nat} (h : c < b) : (a * b + c) % b = c := by
    rw [Nat.add_comm, Nat.add_mul_mod_self_right, Nat.mod_eq_of_lt h]
def ones : List Bool → Nat
  | true :: r => ones r + 1
  | _ => 0
theorem ones_le : ∀ bs : List Bool, ones bs ≤ bs.length
  | [] => Nat.le_refl _
  | true :: r => by unfold ones; rw [List.length_cons]; have := ones_le r; omega
  | false :: r => by simp [ones]
theorem ones_at : ∀ (bs : List Bool) (i : Nat), i < ones bs → bs[i]? = some true
  | [], i, h => by simp [ones] at h
  | false :: r, i, h => by simp [ones] at h
  | true :: r, 0, _ => rfl
  | true :: r, i + 1, h => by
    rw [List.getElem?_cons_succ]
    exact ones_at r i (by unfold ones at h; omega)
theorem ones_stop : ∀ bs : List Bool, bs[ones bs]? ≠ some true
  | [] => by simp
  | false :: r => by simp [ones]
  | true :: r => by
    unfold ones
    rw [List.getElem?_cons_succ]
    exact ones_stop r
theorem ones_uniq {bs : List Bool} {k : Nat} (h1 : ∀ i, i < k → bs[i]? = some true) (h2 : bs[k]? ≠ some true) : ones bs = k := by
  rcases Nat.lt_trichotomy (ones bs) k with h | h | h
  · exact absurd (h1 _ h) (ones_stop bs)
  · exact h
  · exact absurd (ones_at bs k h) h2
theorem ones_split : ∀ (bs : List Bool), ones bs < bs.length → bs = List.replicate (ones bs) true ++ false :: bs.drop (ones bs + 1)
  | [], h => by simp at h
  | false :: r, _ => by simp [ones]
  | true :: r, h => by
    unfold ones at h ⊢
    rw [List.replicate_succ, List.drop_succ_cons, List.cons_append]
    rw [← ones_split r (by rw [List.length_cons] at h; omega)]
theorem ones_of (k : Nat) (r : List Bool) : ones (List.replicate k true ++ false :: r) = k := by
  induction k with
  | zero => rfl
  | succ k ih => rw [List.replicate_succ, List.cons_append]; unfold ones; rw [ih]
/-- the first fold of some bits, and how many bits it has -/
def foldR (w : Nat) (bs : List Bool) : Option (Nat × Nat) :=
  if ones bs + 1 + w ≤ bs.length then some (vF (ones bs) ((bs.drop (ones bs + 1)).take w), ones bs + 1 + w) else none
def rd (w : Nat) : Nat → List Bool → Nat → List (Nat × Nat)
  | 0, _, _ => []
  | k + 1, bs, p => match foldR w bs with
    | none => []
    | some x => (x.1, p + x.2) :: rd w k (bs.drop x.2) (p + x.2)
theorem rd_none {w k : Nat} {bs : List Bool} {p : Nat} (h : foldR w bs = none) : rd w (k + 1) bs p = [] := by
  show (match foldR w bs with
    | none => []
    | some x => (x.1, p + x.2) :: rd w k (bs.drop x.2) (p + x.2)) = _
  rw [h]
theorem rd_some {w k : Nat} {bs : List Bool} {p : Nat} {x : Nat × Nat} (h : foldR w bs = some x) : rd w (k + 1) bs p = (x.1, p + x.2) :: rd w k (bs.drop x.2) (p + x.2) := by
  show (match foldR w bs with
    | none => []
    | some x => (x.1, p + x.2) :: rd w k (bs.drop x.2) (p + x.2)) = _
  rw [h]
/-- all folds of some bits, each with the place behind it -/
def rdT (w : Nat) (bs : List Bool) : List (Nat × Nat) := rd w bs.length bs 0
theorem foldR_le {w : Nat} {bs : List Bool} {x : Nat × Nat} (h : foldR w bs = some x) : 0 < x.2 ∧ x.2 ≤ bs.length := by
  unfold foldR at h
  split at h
  · cases h; exact ⟨by show 0 < ones bs + 1 + w; omega, by assumption⟩
  · cases h
theorem rd_at (w : Nat) : ∀ (k : Nat) (bs : List Bool) (p0 : Nat), bs.length ≤ k → ∀ (j p : Nat), (p0 :: (rd w k bs p0).map (·.2))[j]? = some p →
    p0 ≤ p ∧ p ≤ p0 + bs.length ∧ (foldR w (bs.drop (p - p0))).map (fun x => (x.1, p + x.2)) = (rd w k bs p0)[j]?
  | 0, bs, p0, h, j, p, e => by
    have hb : bs = [] := List.eq_nil_of_length_eq_zero (by omega)
    subst hb
    cases j with
    | zero =>
      cases e
      refine ⟨Nat.le_refl _, Nat.le_refl _, ?_⟩
      have : foldR w ([] : List Bool) = none := by
        unfold foldR
        rw [if_neg (by simp [ones])]
      simp [this, rd]
    | succ j => simp [rd] at e
  | k + 1, bs, p0, h, j, p, e => by
    cases hf : foldR w bs with
    | none =>
      have e1 : rd w (k + 1) bs p0 = [] := rd_none hf
      rw [e1] at e ⊢
      cases j with
      | zero =>
        cases e
        exact ⟨Nat.le_refl _, by omega, by simp [hf]⟩
      | succ j => simp at e
    | some x =>
      obtain ⟨l1, l2⟩ := foldR_le hf
      have e1 : rd w (k + 1) bs p0 = (x.1, p0 + x.2) :: rd w k (bs.drop x.2) (p0 + x.2) := rd_some hf
      rw [e1] at e ⊢
      cases j with
      | zero =>
        cases e
        exact ⟨Nat.le_refl _, by omega, by simp [hf]⟩
      | succ j =>
        rw [List.getElem?_cons_succ, List.map_cons] at e
        obtain ⟨q1, q2, q3⟩ := rd_at w k (bs.drop x.2) (p0 + x.2) (by rw [List.length_drop]; omega) j p e
        rw [List.length_drop] at q2
        refine ⟨by omega, by omega, ?_⟩
        rw [List.getElem?_cons_succ, ← q3, List.drop_drop]
        have : x.2 + (p - (p0 + x.2)) = p - p0 := by omega
        rw [this]
/-- the place at which the fold number j begins -/
def plc (w : Nat) (bs : List Bool) (j : Nat) : Nat := ((0 :: (rdT w bs).map (·.2))[j]?).getD 0
theorem plc_get {w : Nat} {bs : List Bool} {j : Nat} (h : j ≤ (rdT w bs).length) : (0 :: (rdT w bs).map (·.2))[j]? = some (plc w bs j) := by
  unfold plc
  rw [List.getElem?_eq_getElem (by simp; omega), Option.getD_some]
theorem plc_zero (w : Nat) (bs : List Bool) : plc w bs 0 = 0 := rfl
theorem plc_step {w : Nat} {bs : List Bool} {j : Nat} (h : j ≤ (rdT w bs).length) : plc w bs j ≤ bs.length ∧ (foldR w (bs.drop (plc w bs j))).map (fun x => (x.1, plc w bs j + x.2)) = (rdT w bs)[j]? := by
  obtain ⟨q1, q2, q3⟩ := rd_at w bs.length bs 0 (Nat.le_refl _) j _ (plc_get h)
  rw [Nat.sub_zero] at q3
  exact ⟨by omega, q3⟩
theorem plc_next {w : Nat} {bs : List Bool} {j : Nat} {x : Nat × Nat} (h : (rdT w bs)[j]? = some x) : plc w bs (j + 1) = x.2 := by
  unfold plc
  rw [List.getElem?_cons_succ, List.getElem?_map, h]
  rfl
theorem rd_len (w : Nat) : ∀ (k : Nat) (bs : List Bool) (p : Nat), (rd w k bs p).length ≤ bs.length
  | 0, _, _ => by simp [rd]
  | k + 1, bs, p => by
    cases hf : foldR w bs with
    | none => rw [rd_none hf]; simp
    | some x =>
      rw [rd_some hf]
      obtain ⟨l1, l2⟩ := foldR_le hf
      have := rd_len w k (bs.drop x.2) (p + x.2)
      rw [List.length_drop] at this
      simp only [List.length_cons]
      omega
theorem rdT_len (w : Nat) (bs : List Bool) : (rdT w bs).length ≤ bs.length := rd_len w _ _ _
/-- the bits of one fold -/
def tx1 (w f : Nat) : List Bool := List.replicate (f / 2 ^ w) true ++ false :: bB f w
def txF (w : Nat) (fs : List Nat) : List Bool := fs.flatMap (tx1 w)
theorem tx1_len (w f : Nat) : (tx1 w f).length = f / 2 ^ w + 1 + w := by
  unfold tx1
  rw [List.length_append, List.length_replicate, List.length_cons, bB_len]
  omega
theorem foldR_tx1 (w f : Nat) (r : List Bool) : foldR w (tx1 w f ++ r) = some (f, (tx1 w f).length) := by
  have e : tx1 w f ++ r = List.replicate (f / 2 ^ w) true ++ false :: (bB f w ++ r) := by
    unfold tx1
    rw [List.append_assoc, List.cons_append]
  unfold foldR
  rw [tx1_len, e, ones_of]
  rw [if_pos (by rw [List.length_append, List.length_replicate, List.length_cons, List.length_append, bB_len]; omega)]
  have e2 : (List.replicate (f / 2 ^ w) true ++ false :: (bB f w ++ r)).drop (f / 2 ^ w + 1) = bB f w ++ r := by
    rw [List.drop_append_of_le_length' , List.length_replicate]
    · have : f / 2 ^ w + 1 - f / 2 ^ w = 1 := by omega
      rw [this]
      simp
  have e3 : (bB f w ++ r).take w = bB f w := by
    rw [List.take_append_of_le_length (by rw [bB_len]; exact Nat.le_refl _), List.take_of_length_le (by rw [bB_len]; exact Nat.le_refl _)]
  rw [e2, e3, vF_eq, bB_val, bB_len]
  have := Nat.div_add_mod f (2 ^ w)
  rw [Nat.mul_comm, ] at this
  rw [this]
where
  List.drop_append_of_le_length' {n : Nat} {a b : List Bool} : (a ++ b).drop n = a.drop n ++ b.drop (n - a.length) := List.drop_append
/-- written and read -/
theorem rd_tx (w : Nat) : ∀ (fs : List Nat) (more : List Bool) (k p : Nat), (txF w fs ++ more).length ≤ k →
    ((rd w k (txF w fs ++ more) p).take fs.length).map (·.1) = fs ∧ (p :: (rd w k (txF w fs ++ more) p).map (·.2))[fs.length]? = some (p + (txF w fs).length)
  | [], more, k, p, _ => by simp [txF]
  | f :: fs, more, k, p, h => by
    have e : txF w (f :: fs) ++ more = tx1 w f ++ (txF w fs ++ more) := by
      show (tx1 w f ++ txF w fs) ++ more = _
      rw [List.append_assoc]
    have el : (txF w (f :: fs)).length = (tx1 w f).length + (txF w fs).length := by
      show (tx1 w f ++ txF w fs).length = _
      rw [List.length_append]
    rw [e] at h ⊢
    have hp : 1 ≤ (tx1 w f).length := by
      rw [tx1_len]
      exact Nat.le_trans (Nat.le_add_left 1 _) (Nat.le_add_right _ _)
    rw [List.length_append] at h
    cases k with
    | zero => omega
    | succ k =>
      rw [rd_some (foldR_tx1 w f _)]
      have e2 : (tx1 w f ++ (txF w fs ++ more)).drop (tx1 w f).length = txF w fs ++ more := by simp
      rw [e2]
      obtain ⟨q1, q2⟩ := rd_tx w fs more k (p + (tx1 w f).length) (by omega)
      refine ⟨?_, ?_⟩
      · rw [List.length_cons, List.take_succ_cons, List.map_cons, q1]
      · rw [List.length_cons, List.getElem?_cons_succ, List.map_cons, q2, el]
        congr 1
        omega
theorem rdT_tx (w : Nat) (fs : List Nat) (more : List Bool) : ((rdT w (txF w fs ++ more)).take fs.length).map (·.1) = fs ∧ fs.length ≤ (rdT w (txF w fs ++ more)).length ∧ plc w (txF w fs ++ more) fs.length = (txF w fs).length := by
  obtain ⟨q1, q2⟩ := rd_tx w fs more _ 0 (Nat.le_refl _)
  refine ⟨q1, ?_, ?_⟩
  · have := congrArg List.length q1
    rw [List.length_map, List.length_take] at this
    have : min fs.length (rdT w (txF w fs ++ more)).length = fs.length := this
    omega
  · unfold plc
    show ((0 :: (rd w _ (txF w fs ++ more) 0).map (·.2))[fs.length]?).getD 0 = _
    rw [q2, Option.getD_some, Nat.zero_add]
/-! ### read whole -/
def whole (w : Nat) (bs : List Bool) : Bool := plc w bs (rdT w bs).length == bs.length
theorem lastE {w : Nat} {bs : List Bool} : (0 :: (rdT w bs).map (·.2)).getLast (by simp) = plc w bs (rdT w bs).length := by
  unfold plc
  rw [List.getLast_eq_getElem]
  simp
def goS (w s : Int) (b : Bool) : Int := if 0 < s then s - 1 else if b = true then -1 else w
def runS (w s : Int) (bs : List Bool) : Int := bs.foldl (goS w) s
theorem run_cons (w s : Int) (b : Bool) (r : List Bool) : runS w s (b :: r) = runS w (goS w s b) r := rfl
theorem run_app (w s : Int) (x y : List Bool) : runS w s (x ++ y) = runS w (runS w s x) y := by unfold runS; rw [List.foldl_append]
theorem run_ones (w : Int) (k : Nat) : runS w 0 (List.replicate k true) = if k = 0 then 0 else -1 := by
  cases k with
  | zero => rfl
  | succ k =>
    rw [if_neg (by omega), List.replicate_succ, run_cons]
    show runS w (-1) _ = -1
    induction k with
    | zero => rfl
    | succ k ih => rw [List.replicate_succ, run_cons]; exact ih
theorem run_down (w : Nat) : ∀ (n : Nat) (bs : List Bool), runS w n bs = if bs.length < n then ((n - bs.length : Nat) : Int) else runS w 0 (bs.drop n)
  | 0, bs => by rw [if_neg (by omega)]; rfl
  | n + 1, [] => by rw [if_pos (by simp)]; rfl
  | n + 1, b :: r => by
    rw [run_cons]
    have e : goS w ((n + 1 : Nat) : Int) b = (n : Nat) := by
      unfold goS
      rw [if_pos (by omega)]
      omega
    rw [e, run_down w n r, List.length_cons, List.drop_succ_cons]
    by_cases h : r.length < n
    · rw [if_pos h, if_pos (by omega)]
      congr 1
      omega
    · rw [if_neg h, if_neg (by omega)]
def lastP (p : Nat) (l : List (Nat × Nat)) : Nat := (p :: l.map (·.2)).getLast (by simp)
theorem lastP_cons (p : Nat) (x : Nat × Nat) (l : List (Nat × Nat)) : lastP p (x :: l) = lastP x.2 l := by
  unfold lastP
  simp
theorem whole_run (w : Nat) : ∀ (k : Nat) (bs : List Bool) (p : Nat), bs.length ≤ k → (lastP p (rd w k bs p) = p + bs.length ↔ runS w 0 bs = 0)
  | 0, bs, p, h => by
    have hb : bs = [] := List.eq_nil_of_length_eq_zero (by omega)
    subst hb
    simp [rd, lastP, runS]
  | k + 1, bs, p, h => by
    have ho := ones_le bs
    by_cases h0 : ones bs < bs.length
    · have sp := ones_split bs h0
      have hrun : runS w 0 bs = runS w w (bs.drop (ones bs + 1)) := by
        conv => lhs; rw [sp]
        rw [run_app, run_ones, run_cons]
        have : goS w (if ones bs = 0 then 0 else -1) false = w := by
          unfold goS
          rw [if_neg (by split <;> omega), if_neg (by simp)]
        rw [this]
      rw [hrun, run_down, List.length_drop]
      by_cases h1 : ones bs + 1 + w ≤ bs.length
      · have hf : foldR w bs = some (vF (ones bs) ((bs.drop (ones bs + 1)).take w), ones bs + 1 + w) := by
          unfold foldR
          rw [if_pos h1]
        rw [if_neg (by omega), rd_some hf, lastP_cons, List.drop_drop]
        have ih := whole_run w k (bs.drop (ones bs + 1 + w)) (p + (ones bs + 1 + w)) (by rw [List.length_drop]; omega)
        rw [List.length_drop] at ih
        show lastP (p + (ones bs + 1 + w)) (rd w k (bs.drop (ones bs + 1 + w)) (p + (ones bs + 1 + w))) = _ ↔ _
        rw [← ih]
        constructor <;> intro e <;> omega
      · have hf : foldR w bs = none := by
          unfold foldR
          rw [if_neg h1]
        rw [if_pos (by omega), rd_none hf]
        show p = p + bs.length ↔ _
        constructor <;> intro e <;> omega
    · have e1 : ones bs = bs.length := by omega
      have hf : foldR w bs = none := by
        unfold foldR
        rw [if_neg (by omega)]
      rw [rd_none hf]
      have hr : bs = List.replicate (ones bs) true := by
        refine List.eq_replicate_iff.mpr ⟨e1.symm, fun b hb => ?_⟩
        obtain ⟨i, hi, rfl⟩ := List.getElem_of_mem hb
        have := ones_at bs i (by omega)
        rw [List.getElem?_eq_getElem hi] at this
        exact Option.some.inj this
      have hrun : runS w 0 bs = if ones bs = 0 then 0 else -1 := by
        conv => lhs; rw [hr]
        exact run_ones _ _
      rw [hrun]
      show p = p + bs.length ↔ _
      by_cases h2 : ones bs = 0
      · rw [if_pos h2]; constructor <;> intro e <;> omega
      · rw [if_neg h2]; constructor <;> intro e <;> omega
theorem whole_iff (w : Nat) (bs : List Bool) : whole w bs = true ↔ runS w 0 bs = 0 := by
  rw [← whole_run w bs.length bs 0 (Nat.le_refl _), Nat.zero_add]
  unfold whole
  rw [beq_iff_eq, ← lastE]
  exact Iff.rfl
theorem tx_rd (w : Nat) : ∀ (k : Nat) (bs : List Bool) (p : Nat), bs.length ≤ k → lastP p (rd w k bs p) = p + bs.length → txF w ((rd w k bs p).map (·.1)) = bs
  | 0, bs, p, h, _ => by
    have hb : bs = [] := List.eq_nil_of_length_eq_zero (by omega)
    subst hb
    rfl
  | k + 1, bs, p, h, e => by
    cases hf : foldR w bs with
    | none =>
      rw [rd_none hf] at e ⊢
      have e' : p = p + bs.length := e
      have hb : bs = [] := List.eq_nil_of_length_eq_zero (by omega)
      subst hb
      rfl
    | some x =>
      obtain ⟨l1, l2⟩ := foldR_le hf
      rw [rd_some hf, lastP_cons] at e
      rw [rd_some hf]
      have ih := tx_rd w k (bs.drop x.2) (p + x.2) (by rw [List.length_drop]; omega) (by rw [List.length_drop]; simp only at e; omega)
      show tx1 w x.1 ++ txF w ((rd w k (bs.drop x.2) (p + x.2)).map (·.1)) = bs
      rw [ih]
      unfold foldR at hf
      split at hf
      · rename_i h1
        cases hf
        have hl : ((bs.drop (ones bs + 1)).take w).length = w := by rw [List.length_take, List.length_drop]; omega
        have lo := vF_lt ((bs.drop (ones bs + 1)).take w)
        rw [hl] at lo
        show tx1 w (vF (ones bs) ((bs.drop (ones bs + 1)).take w)) ++ bs.drop (ones bs + 1 + w) = bs
        unfold tx1
        have e1 : vF (ones bs) ((bs.drop (ones bs + 1)).take w) = ones bs * 2 ^ w + vF 0 ((bs.drop (ones bs + 1)).take w) := by rw [vF_eq, hl]
        have e2 : vF (ones bs) ((bs.drop (ones bs + 1)).take w) / 2 ^ w = ones bs := by
          rw [e1, Nat.add_comm, Nat.add_mul_div_right _ _ (Nat.two_pow_pos w), Nat.div_eq_of_lt lo, Nat.zero_add]
        have e3 : bB (vF (ones bs) ((bs.drop (ones bs + 1)).take w)) w = (bs.drop (ones bs + 1)).take w := by
          rw [e1]
          conv => lhs; arg 2; rw [← hl]
          rw [show ones bs * 2 ^ w = ones bs * 2 ^ ((bs.drop (ones bs + 1)).take w).length by rw [hl]]
          exact bB_of _ _
        have e4 : bs.drop (ones bs + 1 + w) = (bs.drop (ones bs + 1)).drop w := List.drop_drop.symm
        rw [e2, e3, e4, List.append_assoc, List.cons_append, List.take_append_drop]
        exact (ones_split bs (by omega)).symm
      · cases hf
theorem tx_whole {w : Nat} {bs : List Bool} (h : whole w bs = true) : txF w ((rdT w bs).map (·.1)) = bs := by
  refine tx_rd w _ bs 0 (Nat.le_refl _) ?_
  rw [Nat.zero_add]
  unfold whole at h
  rw [beq_iff_eq, ← lastE] at h
  exact h
end My

namespace My
open PySem PySem.Spec PyProof.Rows L2 Pre
/-! ### a dict display of one tuple; sets in comprehensions; texts of bits -/
def tDisp1T (tk tv : TE) : TE := fun σ H Q => ∀ p, H p = none → tk σ (L2.upd H p (.dT [])) fun x H1 => tv σ H1 fun y H2 => H2 p = some (.dT []) ∧ ∃ (b : Addr) (k : List Key), x = .ref b ∧ H2 b = some (.tup (k.map kV)) ∧ Q (.ref p) (L2.upd H2 p (.dT [(k, y)]))
section
variable {X : Cx} {k v : Expr} {tk tv : TE} {pos : Pos}
theorem pe_disp1T (hu : X.A.units + 1 < cLine) (hk : PE X k tk) (hv : PE X v tv) : PE X (.Dict [some k] [v] pos) (tDisp1T tk tv) := by
  refine ⟨fun pins s σ H Q I q => ?_⟩
  have hn := I.hok.fresh (Nat.le_refl s.heap.objs.size)
  have I1 := I.laid (a := s.heap.objs.size) (o := .dT []) (h' := s.heap.push { cls := .type "dict", data := .dict #[] }) (t' := s.toks) (fun _ _ q => Heap.get?_push_of_some _ q) (Nat.le_refl _) (dt_empty s.heap I.big)
  have hl := pairTrees_length [some k] [v] X.env pos rfl rfl
  rw [arm_eval_Dict, zip_pairTrees [some k] [v] X.env pos rfl rfl, dictDisplay_pairs _ (fun e => by rw [e] at hl; cases hl) (by rw [hl]; show 1 < 17; decide)]
  refine wpAny_bind (wpAny_standAt (wpAny_bind (wpAny_subDictH (knd := tupleKind (mixKind X.prog X.w)) (show X.A.units < cLine by omega) (by rw [hl]; show 1 ≤ 15; decide) ?_)))
  refine pairTrees_cons_walk (thn (hk.run pins _ σ _ _ I1 (q _ hn)) fun u s1 ⟨x, H1, I2, rx, q2⟩ => thn (hv.run pins s1 σ H1 _ I2 q2) fun w s2 ⟨y, H2, I3, ry, e, b, kk, ex, eb, q3⟩ => pairTrees_nil_walk ?_)
  subst ex
  cases (show u = Value.ref b from rx)
  obtain ⟨z, hd, xs, rel, dd⟩ := dt_of I3.hok e
  cases rel
  refine ⟨[(kk, b, w)], ⟨rfl, rfl, key_of I3.hok eb, trivial⟩, dd, fun h' tk' dd' hs => wpAny_pure ⟨.ref s.heap.objs.size, _, ?_, rfl, q3⟩⟩
  obtain ⟨qo, es, ep, hq, h2, h3, h4, _, h5⟩ := dd'
  have hne : b ≠ s.heap.objs.size := ne_of eb e (fun z => nomatch z)
  refine d_write I3 (by rw [e]; exact True.intro) hs ⟨qo, hq⟩ ⟨by show 1 ≤ sizeLine; decide, hd, _, .cons ⟨rfl, ?_, ry⟩ .nil, qo, es, ep, hq, h2, h3, h4, h5⟩
  show (L2.upd H2 s.heap.objs.size _) b = _
  rw [upd_ne hne]
  exact eb
theorem k_sIn (w : World) (h : X.w = w) : OpR X (compareOp .In) (rSIn w) := by subst h; exact or_sin
theorem k_setLW (K : PySem.W.Frag) (w : World) (h : X.K = K) (hw : X.w = w) (hc : X.calm = true) : CallR X (.type "set") (rSetL K w) := by subst hw; exact k_setL K h hc
end
/-! ### texts -/
theorem bS_tl (bs : List Bool) : (bS bs).cps.toList = bs.map sgn := by unfold bS; simp
theorem find_at {bs : List Bool} {i : Nat} : StrLaws.At (bS bs) (bS [false]) (bS bs).length i ↔ bs[i]? = some false := by
  have h := StrLaws.subAt_one (bS bs) 48 i
  show (i + (⟨#[48]⟩ : Str).length ≤ (bS bs).length ∧ Builtin.Str.subAt (bS bs) ⟨#[48]⟩ i = true) ↔ _
  rw [h, bS_tl, List.getElem?_map]
  constructor
  · intro e
    obtain ⟨b, hb, eb⟩ := Option.map_eq_some_iff.mp e
    cases b with
    | false => exact hb
    | true => simp [sgn] at eb
  · intro e
    rw [e]
    rfl
theorem range'_splitN {s n a : Nat} {pre post : List Nat} (h : List.range' s n = pre ++ a :: post) : a < s + n ∧ s ≤ a ∧ ∀ k, s ≤ k → k < a → k ∈ pre := by
  have hm : a ∈ List.range' s n := by rw [h]; simp
  have hr := List.mem_range'_1.mp hm
  refine ⟨hr.2, hr.1, fun k h1 h2 => ?_⟩
  have hk : k ∈ List.range' s n := List.mem_range'_1.mpr ⟨h1, by omega⟩
  rw [h] at hk
  rcases List.mem_append.mp hk with hk | hk
  · exact hk
  · rcases List.mem_cons.mp hk with hk | hk
    · omega
    · have pw : (List.range' s n).Pairwise (· < ·) := List.pairwise_lt_range'
      rw [h] at pw
      have := (List.pairwise_cons.mp (List.pairwise_append.mp pw).2.1).1 k hk
      omega
/-- the first 0 from a place on -/
theorem find_zero {bs : List Bool} {p : Nat} (hp : p ≤ bs.length) : Txt.find3 (bS bs) (bS [false]) (p : Int) = if p + ones (bs.drop p) < bs.length then ((p + ones (bs.drop p) : Nat) : Int) else -1 := by
  unfold Txt.find3
  have ef : fromIndex (bS bs).length (p : Int) = p := by
    unfold fromIndex
    rw [if_neg (by omega)]
    omega
  rw [ef, StrLaws.occ_eq]
  have key := StrLaws.occ_first (bS bs) (bS [false]) (bS bs).length 1 (Nat.le_refl 1) (List.range' p ((bS bs).length + 1 - p)) p (fun i hi => (List.mem_range'_1.mp hi).1)
  generalize (forIn (List.range' p ((bS bs).length + 1 - p)) ((#[] : Array Nat), p) (StrLaws.occBody (bS bs) (bS [false]) (bS bs).length 1)).run.fst = arr at key
  have hl : (bS bs).length = bs.length := bS_len bs
  rcases key with ⟨h0, hn⟩ | ⟨pre, a, post, e, h0, ha, hn⟩
  · rw [if_neg, h0]
    intro hlt
    have h1 := ones_stop (bs.drop p)
    have h2 : (bs.drop p)[ones (bs.drop p)]? = some false := by
      have h3 : ones (bs.drop p) < (bs.drop p).length := by rw [List.length_drop]; omega
      rw [List.getElem?_eq_getElem h3] at h1 ⊢
      cases h4 : (bs.drop p)[ones (bs.drop p)] with
      | true => rw [h4] at h1; exact absurd rfl h1
      | false => rfl
    rw [List.getElem?_drop] at h2
    exact hn _ (List.mem_range'_1.mpr ⟨by omega, by rw [hl]; omega⟩) (find_at.mpr h2)
  · obtain ⟨s1, s2, s3⟩ := range'_splitN e
    have ha' := find_at.mp ha
    have eo : ones (bs.drop p) = a - p := by
      refine ones_uniq (fun i hi => ?_) ?_
      · rw [List.getElem?_drop]
        have hx := hn (p + i) (s3 _ (by omega) (by omega))
        rw [find_at] at hx
        have hlt : p + i < bs.length := by
          have := (List.getElem?_eq_some_iff.mp ha').1
          omega
        rw [List.getElem?_eq_getElem hlt] at hx ⊢
        cases hb : bs[p + i] with
        | true => rfl
        | false => rw [hb] at hx; exact absurd rfl hx
      · rw [List.getElem?_drop]
        have : p + (a - p) = a := by omega
        rw [this, ha']
        simp
    have hlt := (List.getElem?_eq_some_iff.mp ha').1
    rw [if_pos (by omega)]
    have h1 : arr.toList[0]? = some a := by simpa using h0
    cases hL : arr.toList with
    | nil => rw [hL] at h1; cases h1
    | cons b t =>
      rw [hL] at h1
      simp at h1
      subst h1
      show ((b : Nat) : Int) = _
      omega
theorem bS_mul1 (k : Nat) : Txt.mul (("1" : String) : Str) (k : Int) = bS (List.replicate k true) := by
  rw [str_one]
  unfold Txt.mul
  by_cases h0 : (k : Int) < 1
  · rw [if_pos h0, show k = 0 by omega]
    rfl
  · rw [if_neg h0]
    by_cases h1 : k = 1
    · subst h1
      rfl
    · rw [if_neg (by
        rw [Bool.or_eq_true, beq_iff_eq, beq_iff_eq, bS_len]
        simp
        omega), Int.toNat_natCast]
      have := reps_list [49] k []
      unfold bS
      rw [List.map_replicate]
      show (⟨(List.replicate k ([49] : List Nat).toArray).foldl (· ++ ·) ([] : List Nat).toArray⟩ : Str) = _
      rw [this, List.nil_append]
      have e : (List.replicate k [49]).flatten = List.replicate k 49 := by
        clear this h0 h1
        induction k with
        | zero => rfl
        | succ k ih => rw [List.replicate_succ, List.flatten_cons, ih, List.replicate_succ]; rfl
      rw [e]
      rfl
theorem bit_int (b : Bool) : PySem.intText? (bS [b]) = some (b.toNat : Int) := by cases b <;> decide +kernel
theorem str_01 : (("01" : String) : Str) = bS [false, true] := by decide +kernel
theorem str_10 : (("10" : String) : Str) = bS [true, false] := by decide +kernel
theorem join_texts (ts : List (List Bool)) : Txt.join (("" : String) : Str) (ts.map bS) = bS ts.flatten := by
  rw [TL.join_eq]
  have e0 : TL.tl ((("" : String) : Str)) = [] := by rw [str_nil]; rfl
  have key : ∀ ts : List (List Bool), TL.joinL [] ((ts.map bS).map TL.tl) = ts.flatten.map sgn := by
    intro ts
    induction ts with
    | nil => rfl
    | cons b r ih =>
      have eb : TL.tl (bS b) = b.map sgn := bS_tl b
      cases r with
      | nil =>
        show TL.tl (bS b) = _
        rw [eb]
        simp
      | cons c q =>
        show TL.tl (bS b) ++ ([] ++ TL.joinL [] (((c :: q).map bS).map TL.tl)) = _
        rw [ih, eb]
        simp
  have h := TL.tl_join (("" : String) : Str) (ts.map bS)
  rw [e0, key] at h
  show _ = (⟨(ts.flatten.map sgn).toArray⟩ : Str)
  rw [← h]
end My

namespace My
open PySem PySem.Spec PyProof.Rows L2 Pre
/-! ### texts of bits: slices, numbers, lists of counts -/
theorem shrN (a k : Nat) : (a : Int) / 2 ^ ((k : Int)).toNat = ((a / 2 ^ k : Nat) : Int) := by
  rw [Int.toNat_natCast, Int.natCast_ediv, Int.natCast_pow]
  rfl
theorem shlN (a k : Nat) : (a : Int) * 2 ^ ((k : Int)).toNat = ((a * 2 ^ k : Nat) : Int) := by
  rw [Int.toNat_natCast, Int.natCast_mul, Int.natCast_pow]
  rfl
theorem and1N (n : Nat) : Builtin.bitAnd (n : Int) 1 = ((n % 2 : Nat) : Int) := by
  rw [bitAnd_m1]
  omega
theorem small4 {n : Nat} (h : n ≤ 100000) : n < sizeLine := by rw [sizeLine_eq]; omega
theorem cut_list {α : Type} (l : List α) (i j : Nat) : (l.drop (min i l.length)).take (min j l.length - min i l.length) = (l.drop i).take (j - i) := by
  rcases Nat.le_total i l.length with h | h
  · rw [Nat.min_eq_left h]
    rcases Nat.le_total j l.length with k | k
    · rw [Nat.min_eq_left k]
    · rw [Nat.min_eq_right k, List.take_of_length_le (l := l.drop i) (i := l.length - i) (by rw [List.length_drop]; exact Nat.le_refl _), List.take_of_length_le (by rw [List.length_drop]; omega)]
  · rw [Nat.min_eq_right h, List.drop_of_length_le (Nat.le_refl _), List.drop_of_length_le h]
    simp
theorem bS_list (bs : List Bool) : (bS bs).cps.toList = bs.map sgn := by unfold bS; simp
theorem cut_bS (bs : List Bool) (i j : Nat) : cutS (bS bs) (some (i : Int)) (some (j : Int)) = bS ((bs.drop i).take (j - i)) := by
  unfold cutS
  rw [HT.sIx_nat, HT.sIx_nat, bS_list, bS_len]
  have h := cut_list (bs.map sgn) i j
  rw [List.length_map] at h
  rw [h, ← List.map_drop, ← List.map_take]
  rfl
theorem cut_bSd (bs : List Bool) (i : Nat) : cutS (bS bs) (some (i : Int)) none = bS (bs.drop i) := by
  unfold cutS
  rw [HT.sIx_nat, HT.sIx_none, bS_list, bS_len]
  have h := cut_list (bs.map sgn) i bs.length
  rw [List.length_map, Nat.min_self] at h
  rw [h, ← List.map_drop, ← List.map_take, List.take_of_length_le (by rw [List.length_drop]; exact Nat.le_refl _)]
  rfl
theorem cut_bSt (bs : List Bool) (j : Nat) : cutS (bS bs) none (some (j : Int)) = bS (bs.take j) := by
  unfold cutS
  rw [HT.sIx_nat, HT.sIx_none, bS_list, bS_len]
  have h := cut_list (bs.map sgn) 0 j
  rw [List.length_map, Nat.zero_min] at h
  rw [h, List.drop_zero, Nat.sub_zero, ← List.map_take]
  rfl
theorem bB_get (n : Nat) : ∀ k i, i < k → (bB n k)[i]? = some (n / 2 ^ (k - 1 - i) % 2 == 1)
  | k + 1, 0, _ => by unfold bB; simp
  | k + 1, i + 1, h => by
    unfold bB
    rw [List.getElem?_cons_succ, bB_get n k i (by omega)]
    have : k - 1 - i = k + 1 - 1 - (i + 1) := by omega
    rw [this]
theorem bit_nat (x : Nat) : x % 2 = (x % 2 == 1).toNat := by
  rcases Nat.mod_two_eq_zero_or_one x with h | h <;> rw [h] <;> rfl
theorem fm_noneN {α β : Type} (l : List α) : (l.map fun _ => (none : Option β)).filterMap id = [] := by
  induction l with
  | nil => rfl
  | cons n r ih => simp
theorem sign_01 (b : Bool) : decide (sgn b ∈ ((("01" : String) : Str)).cps.toList) = true := by
  have e : (("01" : String) : Str).cps.toList = [48, 49] := by decide +kernel
  rw [e]
  cases b <;> decide
/-- a list of counts -/
abbrev nI (fs : List Nat) : List Int := fs.map fun (n : Nat) => (n : Int)
theorem nI_len (fs : List Nat) : ((nI fs).map V.int).length = fs.length := by rw [List.length_map, List.length_map]
theorem nI_at {fs : List Nat} {i : Nat} {x : V} (h : ((nI fs).map V.int)[i]? = some x) : ∃ n : Nat, fs[i]? = some n ∧ x = .int n := by
  obtain ⟨n, hn, rfl⟩ := int_at h
  rw [List.getElem?_map] at hn
  obtain ⟨m, hm, rfl⟩ := Option.map_eq_some_iff.mp hn
  exact ⟨m, hm, rfl⟩
theorem nI_get {fs : List Nat} {i n : Nat} (h : fs[i]? = some n) : ((nI fs).map V.int)[i]? = some (.int n) := by
  rw [List.getElem?_map, List.getElem?_map, h]
  rfl
theorem nI_inj {a b : List Nat} : nI a = nI b ↔ a = b := ⟨fun h => (List.map_inj_right fun x y e => by omega).mp h, fun h => by rw [h]⟩
theorem bool_nat (b : Bool) : (if b = true then (1 : Int) else 0) = ((b.toNat : Nat) : Int) := by cases b <;> rfl
theorem bit_int' (b : Bool) : PySem.intText? (bS [b]) = some (b.toNat : Int) := by cases b <;> decide +kernel
theorem vF_take {bs : List Bool} {i : Nat} {b : Bool} (h : bs[i]? = some b) : vF 0 (bs.take (i + 1)) = 2 * vF 0 (bs.take i) + b.toNat := by
  rw [List.take_add_one, h, vF_app]
  rfl
end My

namespace My
open PySem PySem.Spec PyProof.Rows L2 Pre
/-! ### promises for callers that stand in no repr: within them repr of lists shows its items -/
structure FnG (P : Program) (w : World) (K : PySem.W.Frag) (mg : Str → Option Value) (base : Heap) (CX : CXT) (k : Nat) (f : Addr) (fd : FuncData) (ps : List Str) (sp : Sp) : Prop where
  many : ∀ xs H Q E, sp xs H Q E → xs.length = ps.length
  does : ∀ (A : Around), A.guards = some [] → Room k A → ∀ (fr : List Env) (t : Shared) (H : Hp), Env0 P w K mg base A fr t H → ∀ (ar : Args) (us : List Value) (xs : List V), BindsTo t fd ar (ps.zip us) → Vals xs us →
    ∀ (Q : VK) (E : XK), sp xs H Q E → codeAny (model P w) A (.call (.ref f) ar) (CR CX fr P w H t Q E) t
section
variable {P : Program} {w : World} {K : PySem.W.Frag} {mg : Str → Option Value} {base : Heap} {CX : CXT} {k : Nat} {f : Addr} {fd : FuncData} {ps : List Str} {sp : Sp}
theorem FnG.of (F : FnOk P w K mg base CX k f fd ps sp) : FnG P w K mg base CX k f fd ps sp :=
  ⟨F.len, fun A _ hr fr t H e ar us xs b v Q E h => F.run A fr t H ar us xs Q E hr e b v h⟩
/-- a body makes a promise -/
theorem FnG.body {x qual : Str} {pr : Arguments} {bd : List Stmt} {sc : Scope} {dvs : List V} {kws : List (Str × V)} {N : List Str} (F : FunD K x qual pr bd sc dvs kws f fd) (S : FnScope N ps sc) (hm : ∀ xs H Q E, sp xs H Q E → xs.length = ps.length)
    (go : ∀ (cv : Value) (A : Around) (fr : List Env) (t : Shared) (H : Hp) (xs : List V) (Q : VK) (E : XK), A.guards = some [] → Room k (A.deeper (envOfC qual sc t.heap.objs.size f cv)) → sp xs H Q E →
      ∃ τ, PSs (cxOf CX P w K mg base N qual sc f cv A fr t H E) bd τ ∧ τ { nx := fun _ H1 => Q .non H1, rt := Q } (start N xs) H) : FnG P w K mg base CX (k + 1) f fd ps sp := by
  obtain ⟨c0, d0, dv, kv, dc, pm, an, cv, ct, sl, rfl, lk, hcode, _, _⟩ := F.ex
  refine ⟨hm, fun A gd hr fr t H e0 ar us xs hb rv Q E hs => ?_⟩
  have hin : K.In t.heap := e0.mod.kin.keeps fun b o z => (e0.bs b o z).1
  have hno : t.heap.NoLimit := e0.mod.nolimit.keeps fun b o z => (e0.bs b o z).1
  refine codeAny_call_function hr.depth (hin _ _ lk) rfl S.co S.gen rfl (PySem.W.codeRec_of hin hcode) (hb _ _ _ _ ?_)
  refine wpAny_newFunctionEnv_cells S.kind (fun y hy => ?_) fun env he t1 hx => ?_
  · obtain ⟨n, u⟩ := y
    rcases S.par n (List.of_mem_zip hy).1 with z | z
    · exact Or.inl z
    · exact Or.inr ⟨z, PySem.W.cellsFrom_some _ _ _ (Or.inl z)⟩
  · subst he
    refine ⟨hno.keeps hx.toInCall.keep, codeAny_func ?_⟩
    obtain ⟨τ, hτ, hq⟩ := go cv A fr t H xs Q E gd (hr.deeper _) hs
    have J := inv_start (CX := CX) (E := E) S hr.hd e0 (hm _ _ _ _ hs) rv hx
    refine wpAny_mono (hτ.run [] t1 (start N xs) H _ J hq) (fun fl t2 h2 => ?_) fun _ _ z => z
    cases fl with
    | brk => exact False.elim h2.choose_spec.choose_spec.2
    | cont => exact False.elim h2.choose_spec.choose_spec.2
    | next =>
      obtain ⟨σ2, H2, J2, q2⟩ := h2
      exact ⟨V.non, H2, J2.os, J2.bare, J2.base, J2.hok, rfl, q2⟩
    | ret u =>
      obtain ⟨v2, σ2, H2, J2, r2, q2⟩ := h2
      exact ⟨v2, H2, J2.os, J2.bare, J2.base, J2.hok, r2, q2⟩
end
section
variable {X : Cx} {CX : CXT} {k : Nat} {f : Addr} {fd : FuncData} {ps : List Str} {sp : Sp} {dvs : List V} {ds : List Value} {E : XK} {x : Str} {p pos : Pos} {e : Expr} {es : List Expr} {t : TA}
theorem go_g {pins : List (Addr × Obj)} {σ : L2.St} {H : Hp} {s : Shared} {Q : VK} {us : List Value} {xs : List V} (F : FnG X.prog X.w X.K X.mg X.base CX k f fd ps sp) (gd : X.A.guards = some []) (hr : Room k X.A) (hb : Binds X.K fd ps ds) (hd : Vals dvs ds)
    (hx : Passes CX X E) (I : Inv X pins σ H s) (r : Vals xs us) (h : sp (xs ++ dvs) H Q E) : wpAny (model X.prog X.w) X.A (call (.ref f) us) (EP X pins σ Q) X.xe s := by
  have rr := Vals.append r hd
  refine wpAny_call (codeAny_mono (F.does X.A gd hr X.stack s H I.env0 ⟨us, []⟩ (us ++ ds) (xs ++ dvs) (hb s us I.kIn (by rw [← rr.length]; exact F.many _ _ _ _ h)) rr Q E h) fun z s2 hz => ?_)
  match z, hz with
  | .error e, hz => exact hx pins σ H s e s2 I hz
  | .ok (.ret u), hz => exact I.after hz
theorem pe_callG (F : FnG X.prog X.w X.K X.mg X.base CX k f fd ps sp) (gd : X.A.guards = some []) (hr : Room k X.A) (hg : Gl X x) (hm : X.mg x = some (.ref f)) (hk : PySem.W.keepIn X.K (.ref f) = true) (hb : Binds X.K fd ps ds) (hd : Vals dvs ds) (hx : Passes CX X E)
    (ha : PA X (e :: es) t) (hdb : (x == ("__debug__" : Str)) = false := by decide) (he : starEach (e :: es) X.env = (false, eval e X.env) :: starEach es X.env := by rfl) (hpl : (backTo pos (starEach es X.env)).any (·.1) = false := by rfl) :
    PE X (.Call (.Name x p) (e :: es) [] pos) (tCall sp dvs E t) :=
  ⟨fun pins s σ H Q I h => wpAny_Call_Name_kw (ld_glob I hg hm (PySem.W.callWith_K (h₀ := X.base) I.ok.mod.kin hk (thn (ha.run pos pins s σ H _ I h) fun us s1 ⟨vs, H1, J, r, q⟩ => ⟨J.kIn, go_g F gd hr hb hd hx J r q⟩) he hpl) hdb)⟩
theorem pe_callG0 (F : FnG X.prog X.w X.K X.mg X.base CX k f fd ps sp) (gd : X.A.guards = some []) (hr : Room k X.A) (hg : Gl X x) (hm : X.mg x = some (.ref f)) (hk : PySem.W.keepIn X.K (.ref f) = true) (hb : Binds X.K fd ps ds) (hd : Vals dvs ds) (hx : Passes CX X E)
    (hdb : (x == ("__debug__" : Str)) = false := by decide) : PE X (.Call (.Name x p) [] [] pos) (tCall sp dvs E tNil) :=
  ⟨fun pins s σ H Q I h => wpAny_Call_Name_kw (ld_glob I hg hm (PySem.W.callWith_K0 I.kIn hk (go_g (us := []) F gd hr hb hd hx I .nil h)) hdb)⟩
end
/-! ### repr -/
def rRepr (K : PySem.W.Frag) : List V → Hp → VK → Prop := fun xs H Q => ∃ (x : V) (d : PyData), xs = [x] ∧ Dp K H x d ∧ d.showable = true ∧ SeqAt.shaped d = true ∧ d.shown.length ≤ sizeLine ∧ Q (.str d.shown) H
theorem call_repr {X : Cx} (gd : X.A.guards = some []) (hu : X.A.units + 65 < cLine) : CallR X (.builtin "repr") (rRepr X.K) := by
  intro pins s σ H xs us Q I r h
  obtain ⟨x, d, rfl, hd, hs, hsh, hl, q⟩ := h
  cases r with
  | cons rx rr =>
    cases rr
    rename_i u
    have hlay : d.canLay0 = true := SeqAt.canLay_of_shaped hsh
    have hdep : d.depth ≤ 64 := by
      have z : (d.canLay0 && decide (d.depth ≤ 64)) = true := hsh
      exact of_decide_eq_true (Bool.and_eq_true_iff.mp z).2
    obtain ⟨as, rd⟩ := Dp.reads I d x u hd rx
    have fin : ∀ h' v tk, (∀ b o, s.heap.get? b = some o → h'.get? b = some o) → EP X pins σ Q (.str d.shown v) { s with heap := h', toks := tk } := fun h' v tk hk => ⟨.str d.shown, H, I.kept hk, ⟨v, rfl⟩, q⟩
    cases hd with
    | non => cases rx; exact PySem.P.repr_of_none (fin _ _ _ fun _ _ z => z)
    | bl b => cases rx; exact PySem.P.repr_of_bool (fin _ _ _ fun _ _ z => z)
    | int i => obtain ⟨t, rfl⟩ := rx; exact PySem.P.repr_of_int (of_decide_eq_true hs) (fin _ _ _ fun _ _ z => z)
    | str y => obtain ⟨t, rfl⟩ := rx; exact PySem.P.repr_of_str (fin _ _ _ fun _ _ z => z) hl
    | lst _ _ => cases rx; exact repr_of_reads' rd hs (PyData.noDict_hsm (PyData.hasDict_of_canLay _ hlay)) gd (by omega) (fun _ _ z => z) fin hl
    | tup _ _ => cases rx; exact repr_of_reads' rd hs (PyData.noDict_hsm (PyData.hasDict_of_canLay _ hlay)) gd (by omega) (fun _ _ z => z) fin hl
theorem k_repr {X : Cx} (K : PySem.W.Frag) (h : X.K = K) (gd : X.A.guards = some []) (hu : X.A.units + 65 < cLine) : CallR X (.builtin "repr") (rRepr K) := by subst h; exact call_repr gd hu
theorem hu65 {k : Nat} {A : Around} (r : Room k A) : A.units + 65 < cLine := by have := r.un; omega
/-- rows of whole numbers, shown -/
theorem dp_ints {K : PySem.W.Frag} {H : Hp} : ∀ ns : List Int, DpAll K H (ns.map V.int) (ns.map PyData.int)
  | [] => .nil
  | n :: ns => .cons (.int n) (dp_ints ns)
theorem dp_row {K : PySem.W.Frag} {H : Hp} {a : Addr} {ns : List Int} (h : SqL K H a (ns.map V.int)) : Dp K H (.ref a) (.list (ns.map PyData.int)) := .lst h (dp_ints ns)
def shownR (ns : List Int) : Str := PyData.shown (.list (ns.map PyData.int))
theorem ints_lay : ∀ ns : List Int, PyData.canLayAll0 (ns.map PyData.int) = true
  | [] => rfl
  | n :: ns => by simp [PyData.canLayAll0, PyData.canLay0, ints_lay ns]
theorem ints_depth : ∀ ns : List Int, PyData.depthAll (ns.map PyData.int) ≤ 1
  | [] => by simp [PyData.depthAll]
  | n :: ns => by
    have := ints_depth ns
    simp only [List.map_cons, PyData.depthAll, PyData.depth]
    omega
theorem row_shaped (ns : List Int) : SeqAt.shaped (.list (ns.map PyData.int)) = true := by
  have h := ints_depth ns
  show (PyData.canLay0 (.list (ns.map PyData.int)) && decide (PyData.depth (.list (ns.map PyData.int)) ≤ 64)) = true
  rw [Bool.and_eq_true]
  exact ⟨by simp only [PyData.canLay0]; exact ints_lay ns, decide_eq_true (by simp only [PyData.depth]; omega)⟩
theorem ints_show : ∀ ns : List Int, (∀ n ∈ ns, n.natAbs.log2 < 1920) → PyData.showableAll (ns.map PyData.int) = true
  | [], _ => rfl
  | n :: ns, h => by
    simp only [List.map_cons, PyData.showableAll, PyData.showable]
    rw [decide_eq_true (h n List.mem_cons_self), ints_show ns fun m hm => h m (List.mem_cons_of_mem _ hm)]
    rfl
/-! ### sorted, any number -/
theorem k_sortedI {X : Cx} (K : PySem.W.Frag) (h : X.K = K) : CallR X (.builtin "sorted") (rSortedI K) := by subst h; exact cr_sortedI
def rSortedA (K : PySem.W.Frag) : List V → Hp → VK → Prop := fun vs H Q => ∃ (a : Addr) (xs : List Str), vs = [V.ref a] ∧ SqL K H a (xs.map V.str) ∧ ∀ (ys : List Str) (p : Addr), ys.Perm xs → sortedS ys = true → H p = none → Q (.ref p) (upd H p (.lst (ys.map V.str)))
theorem k_sortedS {X : Cx} (K : PySem.W.Frag) (h : X.K = K) : CallR X (.builtin "sorted") (rSortedA K) := by
  subst h
  intro pins s σ H vs us Q I r h
  obtain ⟨a, xs, rfl, hs, q⟩ := h
  obtain ⟨its, rv, hl, hz⟩ := I.list hs
  rw [Vals.ref1 r]
  refine sorted_strsAny hl.isList rv.strs (by rw [← rv.length]; exact hz) fun out ys h1 h2 h3 => ?_
  obtain ⟨ep, at_⟩ := sortedAll_at s.heap its out
  refine ⟨.ref _, upd H (s.heap.objs.size + 1) (.lst (ys.map V.str)), I.laid (t' := s.toks) (fun _ _ => sortedAll_old) (Nat.le_succ _) ⟨?_, out.toList, ep, vals_of_strs h1, at_⟩, rfl, q ys _ h2 h3 (I.hok.fresh (Nat.le_succ _))⟩
  rw [List.length_map, h2.length_eq]
  rw [List.length_map] at hz
  exact hz
theorem sorted_le : ∀ (l : List Str) (p : Str), risingS p l = true → (p :: l).Pairwise fun x y => x.cps.toList ≤ y.cps.toList
  | [], p, _ => List.pairwise_singleton _ _
  | x :: r, p, h => by
    obtain ⟨h1, h2⟩ := Bool.and_eq_true_iff.mp (show (!ltCps x.cps.toList p.cps.toList && risingS x r) = true from h)
    have hpx : p.cps.toList ≤ x.cps.toList := by
      rw [ltCps_eq] at h1
      intro z
      rw [decide_eq_true z] at h1
      cases h1
    have ih := sorted_le r x h2
    refine List.pairwise_cons.mpr ⟨fun y hy => ?_, ih⟩
    rcases List.mem_cons.mp hy with rfl | hy
    · exact hpx
    · exact List.le_trans hpx ((List.pairwise_cons.mp ih).1 y hy)
theorem sorted_uniq {xs ys : List Str} (h : xs.Perm ys) (hx : sortedS xs = true) (hy : sortedS ys = true) : xs = ys := by
  have pw : ∀ l : List Str, sortedS l = true → l.Pairwise fun x y => x.cps.toList ≤ y.cps.toList := fun l hl => by
    cases l with
    | nil => exact .nil
    | cons x r => exact sorted_le r x hl
  refine List.Perm.eq_of_pairwise (fun x y _ _ h1 h2 => ?_) (pw _ hx) (pw _ hy) h
  have e := List.le_antisymm h1 h2
  cases x with | mk a => cases y with | mk b => exact congrArg Str.mk (Array.toList_inj.mp e)
end My

namespace My
open PySem PySem.Spec PyProof.Rows L2 Pre
/-! ### the end of a law whose promise stands in no repr -/
/-- the script, tracked or one of the module's own objects -/
theorem script_env {P : Program} {w : World} {K : PySem.W.Frag} {mg mb : Str → Option Value} {a : Addr} {t : Shared} {us : List Value} {ns : List Int} (hin : K.In t.heap) (hgl : t.heap.Ns mainGlobals mg) (hbl : t.heap.Ns builtinsNs mb)
    (hbo : ∀ x : Str, x ≠ "__name__" → mb x = bootBuiltins x) (hno : t.heap.NoLimit) (hgs : t.gens = #[]) (at_a : t.heap.get? a = some { cls := .type "list", data := .seq us.toArray }) (ints_ : IntsAre us ns) (few : ns.length ≤ sizeLine) :
    ∃ (H : Hp) (base : Heap), Only H ∧ SqL K H a (ns.map V.int) ∧ K.In base ∧ base.Ns mainGlobals mg ∧ Env0 P w K mg base callerA [] t H := by
  have rv := vals_ints ints_
  have ul := ints_.length
  -- the module and the rest of the heap, whatever is tracked at a alone
  have rest : ∀ H : Hp, Only H → (∀ b, b ≠ a → H b = none) → (H a = none ∨ K.lookup a = none) → HOk P w H t.heap → SqL K H a (ns.map V.int) → ∃ (H : Hp) (base : Heap), Only H ∧ SqL K H a (ns.map V.int) ∧ K.In base ∧ base.Ns mainGlobals mg ∧ Env0 P w K mg base callerA [] t H := by
    intro H h1 h2 h3 h4 h5
    have dictFree : ∀ b o, t.heap.get? b = some o → (∃ es n, o.data = Data.dict es n) → H b = none := fun b o z ⟨es, n, d⟩ => by
      by_cases hb : b = a
      · rw [hb, at_a] at z
        cases z
        cases d
      · exact h2 b hb
    have nsKept : ∀ (b : Addr) (m : Str → Option Value), t.heap.Ns b m → (hidT t.heap H).Ns b m := fun b m z => by
      obtain ⟨o, es, ep, z1, z2, z3⟩ := z
      exact ⟨o, es, ep, hidT_get z1 (dictFree b o z1 ⟨_, _, z2⟩), z2, z3⟩
    have inKept : K.In (hidT t.heap H) := fun b o z => hidT_get (hin b o z) (by
      by_cases hb : b = a
      · rcases h3 with z3 | z3
        · rw [hb]; exact z3
        · rw [hb, z3] at z; cases z
      · exact h2 b hb)
    obtain ⟨mc, l1, l2⟩ := hno
    refine ⟨H, hidT t.heap H, h1, h5, inKept, nsKept _ _ hgl, ⟨rfl, ⟨inKept, nsKept _ _ hgl, ⟨mb, nsKept _ _ hbl, hbo⟩, ⟨mc, nsKept _ _ l1, l2⟩⟩, fun b o z => of_hidT z, ?_, trivial, fun b z => (nomatch z), h4, .of_eq hgs⟩⟩
    rw [hidT_size]
    exact Nat.le_refl _
  cases hk : K.lookup a with
  | some o =>
    have z := hin a o hk
    rw [at_a] at z
    cases z
    exact rest (fun _ => none) (fun _ => .inl rfl) (fun _ _ => rfl) (.inl rfl) (fun _ _ z => nomatch z) (.inr ⟨_, us.toArray, _, hk, rfl, rfl, rfl, by rw [List.size_toArray, ul]; exact few, by simpa using rv⟩)
  | none =>
    refine rest (upd (fun _ => none) a (.frz { cls := .type "list", data := .seq us.toArray } (.lst (ns.map V.int)))) (fun b => ?_) (fun b hb => upd_ne hb) (.inr hk) (fun b u z => ?_) (.inl (.inr ⟨_, upd_same⟩))
    · by_cases hb : b = a
      · rw [hb]; exact .inr ⟨_, _, upd_same⟩
      · exact .inl (upd_ne hb)
    · by_cases hb : b = a
      · subst hb
        rw [upd_same] at z
        cases z
        exact ⟨at_a, by rw [List.length_map]; exact few, us, _, rv, at_a⟩
      · rw [upd_ne hb] at z
        cases z
theorem end_g {l : PySem.W.OpenLaw} {n k : Nat} {q : Program} {loose : List Str} {XP : (Str → Option Value) → Heap → Prop} {YP : World → Heap → Prop} {d : DefRec} {x : Str} (hn : l.most = some n) (hn2 : n ≤ sizeLine) (hdf : d.params.defaults = []) (hr : Room k callerA)
    (F : ∀ (w : World) (mg : Str → Option Value) (fa : Addr) (h : Heap), YP w h → h.Ns mainGlobals mg → mg d.name = some (.ref fa) →
      ∃ (K : PySem.W.Frag) (fd : FuncData) (sp : Sp), K.In h ∧ (∀ (s : Shared) (u : Value), BindsTo s fd ⟨[u], []⟩ [(x, u)]) ∧
        (∀ (H : Hp) (a : Addr) (ns : List Int), ns.length ≤ n → SqL K H a (ns.map V.int) → sp [.ref a] H (fun v _ => v = .bl true) fun _ _ _ => False) ∧
        ∀ base : Heap, K.In base → base.Ns mainGlobals mg → FnG l.prog w K mg base CX0 k fa fd [x] sp) :
    PySem.W.WalkO q loose XP YP l.row.toRowW d [] (fun f vs => PySem.call f vs) := by
  refine Att.attach_call hn hdf fun w s₀ t mg mb fa o pm cd doc a us ns G Y ho hd hcd hmg at_a hi hl hg => ?_
  obtain ⟨K, fd, sp, hin, hb, hsp, hF⟩ := F w mg fa _ Y G.T.g hmg
  obtain ⟨H, base, only, hS, hKb, hgb, e0⟩ := script_env (P := l.prog) (w := w) hin G.T.g G.T.b G.T.builtins G.T.nolimit hg at_a hi (Nat.le_trans hl hn2)
  refine codeAny_mono ((hF base hKb hgb).does callerA rfl hr [] t H e0 ⟨[.ref a], []⟩ [.ref a] [.ref a] (hb t (.ref a)) (.cons rfl .nil) _ _ (hsp H a ns hl hS)) fun r t2 h => ?_
  match r, h with
  | .error e, h => exact (show False from h).elim
  | .ok (.ret u), h =>
    obtain ⟨v, H2, os, bare, un, hok2, rv, qv⟩ := h
    have qv : v = .bl true := qv
    subst qv
    have rv : u = Value.bool true := rv
    subst rv
    refine ⟨rfl, OldK.of_keep fun b o z => ?_, os, bare⟩
    rcases only b with hb | ⟨ob, ys, hb⟩
    · exact un.keep b o z hb (fun y => nomatch y) (fun y => nomatch y)
    · have z1 : t.heap.get? b = some ob := (e0.hok b _ hb).1
      have z2 : t2.heap.get? b = some ob := (hok2 b _ (un.frzs b ob _ hb)).1
      rw [z] at z1
      cases z1
      exact z2
end My

namespace My
open PySem PySem.Spec PyProof.Rows L2 Pre
/-! ### repr of an empty dict, too -/
def rReprX (K : PySem.W.Frag) : List V → Hp → VK → Prop := fun xs H Q => rRepr K xs H Q ∨ ∃ a : Addr, xs = [.ref a] ∧ H a = some (.dK []) ∧ Q (.str (PyData.dict []).shown) H
theorem call_reprX {X : Cx} (gd : X.A.guards = some []) (hu : X.A.units + 65 < cLine) : CallR X (.builtin "repr") (rReprX X.K) := by
  intro pins s σ H xs us Q I r h
  rcases h with h | ⟨a, rfl, ha, q⟩
  · exact call_repr gd hu pins s σ H xs us Q I r h
  · cases r with
    | cons rx rr =>
      cases rr
      cases rx
      have hx := I.hok a _ ha
      obtain ⟨t1, t2, vs, rel, o, es, ep, ho, h2, h3, h4⟩ := hx
      obtain rfl : vs = [] := by cases rel; rfl
      have he : es.toList = [] := by
        have h5 := h4.2.1
        cases hl : es.toList with
        | nil => rfl
        | cons e r => rw [hl] at h5; cases h5
      have rd : Reads s.heap (.ref a) (.dict []) [a] := .dict (as := []) (bs := []) ho h2.1 h3 (by rw [he]; exact .nil) (by rw [he]; exact .nil)
      have hd : (PyData.dict []).depth ≤ 64 := by decide +kernel
      have fin : ∀ h' v tk, (∀ b o, s.heap.get? b = some o → h'.get? b = some o) → EP X pins σ Q (.str (PyData.dict []).shown v) { s with heap := h', toks := tk } := fun h' v tk hk => ⟨.str (PyData.dict []).shown, H, I.kept hk, ⟨v, rfl⟩, q⟩
      exact repr_of_reads' rd rfl (fun _ m => by
        rw [List.mem_singleton] at m
        rw [← m] at t2
        simp at t2) gd (by omega) (fun _ _ z => z) fin (by decide +kernel)
theorem k_reprX {X : Cx} (K : PySem.W.Frag) (h : X.K = K) (gd : X.A.guards = some []) (hu : X.A.units + 65 < cLine) : CallR X (.builtin "repr") (rReprX K) := by subst h; exact call_reprX gd hu
end My

namespace My
open PySem PySem.Spec PyProof.Rows PySem.W L2 Pre
/-- products of one small number, or of two that are not too great -/
def CMulA (i j : Int) : Prop := CMul i j ∨ CMulX i j
theorem op_mulA {X : Cx} : OpR X (binaryOp .Mult) (rI CMulA fun i j => .int (i * j)) := fun pins s σ H x y v u Q I r1 r2 h => by
  obtain ⟨i, j, ex, ey, hc, q⟩ := h
  rcases hc with hc | hc
  · exact op_mul pins s σ H x y v u Q I r1 r2 ⟨i, j, ex, ey, hc, q⟩
  · exact op_mulX pins s σ H x y v u Q I r1 r2 ⟨i, j, ex, ey, hc, q⟩
end My

namespace My
open PySem PySem.Spec PyProof.Rows L2 Pre
theorem _root_.L2.TyX.same {K : PySem.W.Frag} {H H' : Hp} {v : V} {t : Value} (s : Same H H') (h : TyX K H v t) : TyX K H' v t := by
  cases h with
  | base b => exact .base (by
    cases b with
    | non => exact .non
    | bl y => exact .bl y
    | int i => exact .int i
    | str y => exact .str y
    | flt y => exact .flt y
    | lst e => exact .lst (s _ _ e)
    | frz e => exact .frz (s _ _ e)
    | tup e => exact .tup (s _ _ e)
    | dK e => exact .dK (s _ _ e)
    | dT e => exact .dT (s _ _ e)
    | ins e cl ha hn htk hm => exact .ins (s _ _ e) cl ha hn htk hm)
  | byt b => exact .byt b
  | set e => exact .set (s _ _ e)
  | kList e c => exact .kList e c
  | kTuple e c => exact .kTuple e c
  | kDict e c => exact .kDict e c
  | fTuple e => exact .fTuple (s _ _ e)
  | fDict e => exact .fDict (s _ _ e)
end My

namespace My
open PySem PySem.Spec PyProof.Rows L2 Pre
/-! ### whole numbers, and what is none -/
/-- what is no whole number -/
def BadN (K : PySem.W.Frag) (H : Hp) (v : V) : Prop := (∃ b : Bool, v = .bl b) ∨ ∃ T : String, TyX K H v (.type T) ∧ kitB T "int" = some false
def NumV (K : PySem.W.Frag) (H : Hp) (v : V) (lo : Int) (hi : Option Int) (b : Bool) : Prop := (∃ i : Int, v = .int i ∧ b = decide (lo ≤ i ∧ ∀ j, hi = some j → i ≤ j)) ∨ (BadN K H v ∧ b = false)
theorem BadN.same {K : PySem.W.Frag} {H H' : Hp} {v : V} (s : Same H H') (h : BadN K H v) : BadN K H' v := by
  rcases h with h | ⟨T, ty, e⟩
  · exact .inl h
  · exact .inr ⟨T, ty.same s, e⟩
theorem NumV.same {K : PySem.W.Frag} {H H' : Hp} {v : V} {lo : Int} {hi : Option Int} {b : Bool} (s : Same H H') (h : NumV K H v lo hi b) : NumV K H' v lo hi b := by
  rcases h with h | ⟨h, e⟩
  · exact .inl h
  · exact .inr ⟨h.same s, e⟩
/-- a bound: a number or None -/
def hiV : Option Int → V
  | some j => .int j
  | none => .non
local macro_rules | `(tactic| walk_at "go") => `(tactic| repeat (first | (with_reducible first | refine iteT ?_ | refine iteF ?_ | refine iteNtt ?_ | refine iteNff ?_ | refine iteET (by omega) ?_ | refine iteEF (by omega) ?_ | refine iteENT (by omega) ?_ | refine iteENF (by omega) ?_ | refine iteDT (by omega) ?_ | refine iteDF (by omega) ?_ | refine iteNT (by omega) ?_ | refine iteNF (by omega) ?_) | refine ⟨_, rfl, ?_⟩ | refine ⟨_, _, rfl, rfl, ?_⟩ | refine ⟨_, _, rfl, ?_⟩ | refine ⟨rfl, ?_⟩ | refine .inl ⟨_, rfl, ?_⟩ | refine .inr ⟨_, rfl, ?_⟩))
local macro_rules | `(tactic| walk_at "b") => `(tactic| try dsimp (config := { proj := false, iota := false, eta := false, zeta := false }) only)
section
variable {P : Program} {w : World} {K : PySem.W.Frag} {mg : Str → Option Value} {base : Heap} [pf : Sup.PF P fileS]
def sp_is_whole (K : PySem.W.Frag) : Sp := fun vs H Q _ => ∃ v : V, vs = [v] ∧ ((∃ i : Int, v = .int i ∧ Q (.bl true) H) ∨ (BadN K H v ∧ Q (.bl false) H))
theorem G_is_whole (T : Top K mg) : FnOk P w K mg base CX0 1 T.f_is_whole T.fd_is_whole ["value"] (sp_is_whole K) := by
  refine T.F_is_whole.ok sc_is_whole (fun vs H Q E h => by obtain ⟨v, rfl, _⟩ := h; rfl) (fun cdv A outer s H vs Q E hr h => ?_)
  obtain ⟨v, rfl, h⟩ := h
  refine ⟨_, PSs.nox (pss_one (ps_ret (pe_and (pe_callB (k_isi K rfl) (by rfl) T.n_isinstance (by decide +kernel) (pa_cons (pv 0) (pa_cons (pe_bltn (v := .ty "int") (by rfl) T.n_int (by decide +kernel) rfl) pa_nil))) (pe_one (pe_not (pe_callB (k_isi K rfl) (by rfl) T.n_isinstance (by decide +kernel) (pa_cons (pv 0) (pa_cons (pe_bltn (v := .ty "bool") (by rfl) T.n_bool (by decide +kernel) rfl) pa_nil)))))))), ?_⟩
  rcases h with ⟨i, rfl, q⟩ | ⟨⟨b, rfl⟩ | ⟨T, ty, hT⟩, q⟩
  · refine ⟨_, rfl, _, _, _, _, true, rfl, .ty _, .base (.int i), kit_ty (by decide +kernel), true, rfl, iteT ?_⟩
    exact ⟨_, rfl, _, _, _, _, false, rfl, .ty _, .base (.int i), kit_ty (by decide +kernel), false, rfl, q⟩
  · refine ⟨_, rfl, _, _, _, _, true, rfl, .ty _, .base (.bl b), kit_ty (by decide +kernel), true, rfl, iteT ?_⟩
    exact ⟨_, rfl, _, _, _, _, true, rfl, .ty _, .base (.bl b), kit_ty (by decide +kernel), true, rfl, q⟩
  · exact ⟨_, rfl, _, _, _, _, false, rfl, .ty _, ty, kit_ty hT, false, rfl, iteF q⟩
def sp_is_between (K : PySem.W.Frag) : Sp := fun vs H Q _ => ∃ (v : V) (lo : Int) (hi : Option Int) (b : Bool), vs = [v, .int lo, hiV hi] ∧ NumV K H v lo hi b ∧ Q (.bl b) H
theorem G_is_between (T : Top K mg) : FnOk P w K mg base CX0 2 T.f_is_between T.fd_is_between ["value", "low", "high"] (sp_is_between K) := by
  refine T.F_is_between.ok sc_is_between (fun vs H Q E h => by obtain ⟨v, lo, hi, b, rfl, _⟩ := h; rfl) (fun cdv A outer s H vs Q E hr h => ?_)
  obtain ⟨v, lo, hi, b, rfl, hv, q⟩ := h
  refine ⟨_, PSs.nox (pss_one (ps_ret (pe_and (pe_call (G_is_whole (P := P) T) (hr.mono (by decide)) (by rfl) T.g_is_whole T.F_is_whole.kp T.b_is_whole .nil pass0 (pa_cons (pv 0) pa_nil)) (pe_and (pe_cmpR op_le (pv 1) (pv 0) (nomark _)) (pe_one (pe_or (pe_cmpR op_isN (pv 2) pe_non (nomark _)) (pe_one (pe_cmpR op_le (pv 0) (pv 2) (nomark _))))))))), ?_⟩
  rcases hv with ⟨i, rfl, rfl⟩ | ⟨hv, rfl⟩
  · refine ⟨_, rfl, _, rfl, .inl ⟨i, rfl, true, rfl, iteT ?_⟩⟩
    refine ⟨_, rfl, _, rfl, _, _, rfl, rfl, _, rfl, ite2 (fun e => ?_) (fun e => ?_)⟩
    · have e1 : lo ≤ i := of_decide_eq_true e
      cases hi with
      | none =>
        refine ⟨_, rfl, rfl, _, rfl, iteT ?_⟩
        rw [decide_eq_true ⟨e1, fun j h => nomatch h⟩] at q
        exact q
      | some j =>
        refine ⟨_, rfl, rfl, _, rfl, iteF ⟨_, rfl, _, rfl, _, _, rfl, rfl, ?_⟩⟩
        have e2 : decide (lo ≤ i ∧ ∀ j', some j = some j' → i ≤ j') = decide (i ≤ j) := by
          by_cases h : i ≤ j
          · rw [decide_eq_true h, decide_eq_true]
            exact ⟨e1, fun j' e => by cases e; exact h⟩
          · rw [decide_eq_false h, decide_eq_false]
            exact fun z => h (z.2 j rfl)
        rw [e2] at q
        exact q
    · have e1 : ¬ lo ≤ i := fun h => e (decide_eq_true h)
      rw [decide_eq_false fun z => e1 z.1] at q
      exact q
  · exact ⟨_, rfl, _, rfl, .inr ⟨hv, false, rfl, iteF q⟩⟩
def sp_check_number (K : PySem.W.Frag) (C : Addr) : Sp := fun vs H Q E => ∃ (v : V) (lo : Int) (hi : Option Int) (b : Bool), vs = [v, .int lo, hiV hi] ∧ NumV K H v lo hi b ∧ (b = true → Q .non H) ∧ (b = false → ∀ d, H d = none → E (.ref C) (some d) (upd H d (.xd [("value", v)])))
theorem G_check_number (T : Top K mg) : FnOk P w K mg base (L2.CX P w) 3 T.f_check_number T.fd_check_number ["number", "low", "high"] (sp_check_number K T.C_InvalidNumber) := by
  refine T.F_check_number.ok (CX := L2.CX P w) sc_check_number (fun vs H Q E h => by obtain ⟨v, lo, hi, b, rfl, _⟩ := h; rfl) (fun cdv A outer s H vs Q E hr h => ?_)
  obtain ⟨v, lo, hi, b, rfl, hv, q1, q2⟩ := h
  refine ⟨_, (pss_one (ps_if (pt_not (pt_val (pe_call (G_is_between (P := P) T) (hr.mono (by decide)) (by rfl) T.g_is_between T.F_is_between.kp T.b_is_between .nil pass0 (pa_cons (pv 0) (pa_cons (pv 1) (pa_cons (pv 2) pa_nil))))))
    (pss_one (ps_raise rfl (takes_of rfl rfl rfl rfl) (pmk_oex T.er_InvalidNumber.sup.T T.er_InvalidNumber.ini T.er_InvalidNumber.ity (G_InvalidNumber___init__ (P := P) (CX := CX0) T) (hr.mono (by decide)) T.er_InvalidNumber.bnd .nil pass0 (by rfl) T.gc_InvalidNumber (pa_cons (pv 0) pa_nil))))
    pss_nil)), ?_⟩
  refine ⟨_, rfl, _, rfl, _, rfl, v, lo, hi, b, rfl, hv, _, rfl, ?_⟩
  cases b with
  | true => exact iteF (q1 rfl)
  | false => exact iteT ⟨_, rfl, mk_sup fun d nd => q2 rfl d nd⟩
end
end My

namespace My
open PySem PySem.Spec PyProof.Rows L2 Pre
/-! ### rules, in a program: what is asked of them -/
def isI : V → Bool
  | .int _ => true
  | _ => false
/-- an item that may stand in a list -/
def Item (K : PySem.W.Frag) (H : Hp) (x : V) : Prop := (∃ i, x = .int i) ∨ (isI x = false ∧ BadN K H x ∧ ∃ d, Dp K H x d ∧ PyData.canLay0 d = true ∧ PyData.depth d ≤ 1)
theorem Item.same {K : PySem.W.Frag} {H H' : Hp} {x : V} (s : Same H H') (h : Item K H x) : Item K H' x := by
  rcases h with h | ⟨a, b, d, e, f⟩
  · exact .inl h
  · exact .inr ⟨a, b.same s, d, Pre.dp_same s _ _ e, f⟩
/-- what is no list -/
def NoL (K : PySem.W.Frag) (H : Hp) (v : V) : Prop := ∃ T : String, TyX K H v (.type T) ∧ kitB T "list" = some false
theorem NoL.same {K : PySem.W.Frag} {H H' : Hp} {v : V} (s : Same H H') (h : NoL K H v) : NoL K H' v := by
  obtain ⟨T, ty, e⟩ := h
  exact ⟨T, ty.same s, e⟩
/-- what is no rule -/
def BadR (K : PySem.W.Frag) (H : Hp) (v : V) : Prop := NoL K H v ∨ ∃ (a : Addr) (xs : List V), v = .ref a ∧ H a = some (.lst xs) ∧ xs.length ≤ 1000 ∧ (∀ x ∈ xs, Item K H x) ∧ (xs.all isI = false ∨ ∃ ws : List Int, xs = ws.map V.int ∧ (8 < ws.length ∨ ∃ w ∈ ws, 32768 < (w.natAbs : Nat)))
theorem BadR.same {K : PySem.W.Frag} {H H' : Hp} {v : V} (s : Same H H') (h : BadR K H v) : BadR K H' v := by
  rcases h with h | ⟨a, xs, e, h, r⟩
  · exact .inl (h.same s)
  · exact .inr ⟨a, xs, e, s _ _ h, r.1, fun x hx => (r.2.1 x hx).same s, r.2.2⟩
def GoodR (ws : List Int) : Prop := ws.length ≤ 8 ∧ ∀ w ∈ ws, w.natAbs ≤ 32768
theorem bad_data {K : PySem.W.Frag} {H : Hp} : ∀ xs : List V, (∀ x ∈ xs, Item K H x) → ∃ ds, DpAll K H (xs.filter fun x => !isI x) ds ∧ PyData.canLayAll0 ds = true ∧ PyData.depthAll ds ≤ 1 ∧ (ds = [] ↔ xs.all isI = true)
  | [], _ => ⟨[], .nil, rfl, by rw [PyData.depthAll]; decide, by simp⟩
  | x :: r, h => by
    obtain ⟨ds, h1, h2, h3, h4⟩ := bad_data r fun y hy => h y (List.mem_cons_of_mem _ hy)
    rcases h x List.mem_cons_self with ⟨i, rfl⟩ | ⟨a, _, d, e, f, g⟩
    · exact ⟨ds, h1, h2, h3, by rw [h4]; simp [isI]⟩
    · refine ⟨d :: ds, ?_, by rw [PyData.canLayAll0, h2, f]; rfl, by rw [PyData.depthAll]; omega, by simp [a]⟩
      rw [List.filter_cons, if_pos (by rw [a]; rfl)]
      exact .cons e h1
theorem dpAll_same {K : PySem.W.Frag} {H H' : Hp} (s : Same H H') : ∀ {xs : List V} {ds : List PyData}, DpAll K H xs ds → DpAll K H' xs ds
  | _, _, .nil => .nil
  | _, _, .cons h t => .cons (Pre.dp_same s _ _ h) (dpAll_same s t)
local macro_rules | `(tactic| walk_at "go") => `(tactic| repeat (first | (with_reducible first | refine iteT ?_ | refine iteF ?_ | refine iteNtt ?_ | refine iteNff ?_ | refine iteET (by omega) ?_ | refine iteEF (by omega) ?_ | refine iteENT (by omega) ?_ | refine iteENF (by omega) ?_ | refine iteDT (by omega) ?_ | refine iteDF (by omega) ?_ | refine iteNT (by omega) ?_ | refine iteNF (by omega) ?_) | refine ⟨_, rfl, ?_⟩ | refine ⟨_, _, rfl, rfl, ?_⟩ | refine ⟨_, _, rfl, ?_⟩ | refine ⟨rfl, ?_⟩ | refine .inl ⟨_, rfl, ?_⟩ | refine .inr ⟨_, rfl, ?_⟩))
local macro_rules | `(tactic| walk_at "b") => `(tactic| try dsimp (config := { proj := false, iota := false, eta := false, zeta := false }) only)
section
variable {P : Program} {w : World} {K : PySem.W.Frag} {mg : Str → Option Value} {base : Heap} [pf : Sup.PF P fileS]
def sp_are_wholes (K : PySem.W.Frag) : Sp := fun vs H Q _ => ∃ v : V, vs = [v] ∧ ((NoL K H v ∧ Q (.bl false) H) ∨ ∃ (a : Addr) (xs : List V), v = .ref a ∧ H a = some (.lst xs) ∧ xs.length ≤ 1000 ∧ (∀ x ∈ xs, Item K H x) ∧ ∀ H', Same H H' → Q (.bl (xs.all isI)) H')
theorem G_are_wholes (T : Top K mg) : FnOk P w K mg base CX0 2 T.f_are_wholes T.fd_are_wholes ["value"] (sp_are_wholes K) := by
  refine T.F_are_wholes.ok sc_are_wholes (fun vs H Q E h => by obtain ⟨v, rfl, _⟩ := h; rfl) (fun cdv A outer s H vs Q E hr h => ?_)
  obtain ⟨v, rfl, h⟩ := h
  refine ⟨_, PSs.nox (pss_one (ps_ret (pe_and (pe_callB (k_isi K rfl) (by rfl) T.n_isinstance (by decide +kernel) (pa_cons (pv 0) (pa_cons (pe_bltn (v := .ty "list") (by rfl) T.n_list (by decide +kernel) rfl) pa_nil))) (pe_one (pe_cmpR (k_eqD K rfl hr.units) (pe_lc (own := [("item", 1)]) (g := gName 1) (by rfl) sc_are_wholes.nd (k_piL K rfl (pv 0)) (blkOk_by (own := [("item", 1)]) (N := N_are_wholes) (sc := defScope s_are_wholes) (by decide +kernel)) (fun _ _ _ _ _ => (pg_name (i := 1) sc_are_wholes.nd rfl (by first | exact Or.inl rfl | exact Or.inr rfl))) (fun _ _ _ _ _ => (pts_one (pt_not (pt_val (pe_call (G_is_whole (P := P) T) (hr.mono (by decide)) (by rfl) T.g_is_whole T.F_is_whole.kp T.b_is_whole .nil pass0 (pa_cons (pv 1) pa_nil)))))) (fun _ _ _ _ _ => (pv 1))) (pe_lst pa_nil) (nomark _)))))), ?_⟩
  rcases h with ⟨⟨T, ty, hT⟩, q⟩ | ⟨a, xs, rfl, ha, hz, hs, q⟩
  · exact ⟨_, rfl, _, _, _, _, false, rfl, .ty _, ty, kit_ty hT, false, rfl, iteF q⟩
  · refine ⟨_, rfl, _, _, _, _, true, rfl, .ty _, .base (.lst ha), kit_ty (by decide +kernel), true, rfl, iteT ?_⟩
    refine ⟨_, rfl, a, rfl, ⟨_, .inl (.inl ha)⟩, fun D nD => ?_⟩
    refine lc_selL (K := K) (xs := xs) (xs.map fun x => if (!isI x) = true then some x else none) nD (.inl (.inl ha)) (by rw [List.length_map]) (small4 (by omega)) (fun x => rfl) ?_ ?_
    · intro i x o H' hx ho s Qt qt
      rw [List.getElem?_map, hx] at ho
      cases ho
      dsimp only at qt
      rcases hs x (List.mem_of_getElem? hx) with ⟨i, rfl⟩ | ⟨a, b, _⟩
      · exact ⟨_, rfl, _, rfl, .inl ⟨i, rfl, _, rfl, iteF (qt _ (Same.refl _))⟩⟩
      · rw [if_pos (by rw [a]; rfl)] at qt
        exact ⟨_, rfl, _, rfl, .inr ⟨b.same s, _, rfl, iteT ⟨_, rfl, qt _ (Same.refl _)⟩⟩⟩
    · intro H1 s1 hD
      obtain ⟨ds, d1, d2, d3, d4⟩ := bad_data xs hs
      have ef : (xs.map fun x => if (!isI x) = true then some x else none).filterMap id = xs.filter fun x => !isI x := by
        clear hD d1 d2 d3 d4 ha hz hs q
        induction xs with
        | nil => rfl
        | cons x r ih =>
          rw [List.map_cons, List.filterMap_cons, List.filter_cons]
          by_cases c : (!isI x) = true
          · rw [if_pos c, if_pos c, ← ih]; rfl
          · rw [if_neg c, if_neg c, ← ih]; rfl
      rw [ef] at hD
      refine ⟨Nat.zero_le _, fun p np => ?_⟩
      have sh : SeqAt.shaped (.list ds) = true := by
        unfold SeqAt.shaped
        rw [PyData.canLay0, d2, PyData.depth, Bool.true_and]
        exact decide_eq_true (by omega)
      refine ⟨.list ds, .list [], .lst (.inl (.inl (same_upd np _ _ hD))) (dpAll_same (s1.trans (same_upd np)) d1), .lst (.inl (.inl upd_same)) .nil, sh, rfl, ?_⟩
      have ee : PyData.eqv (.list ds) (.list []) = xs.all isI := by
        rw [Bool.eq_iff_iff, ← d4]
        cases ds with
        | nil => exact ⟨fun _ => rfl, fun _ => rfl⟩
        | cons y r => exact ⟨fun h => (by cases h), fun h => (by cases h)⟩
      rw [ee]
      exact q _ (s1.trans (same_upd np))
def sp_check_depth (K : PySem.W.Frag) (C : Addr) : Sp := fun vs H Q E => ∃ (v : V) (hi : Int) (b : Bool), vs = [v, .int hi] ∧ NumV K H v 1 (some hi) b ∧ (b = true → Q .non H) ∧ (b = false → ∀ d, H d = none → E (.ref C) (some d) (upd H d (.xd [("value", v)])))
theorem G_check_depth (T : Top K mg) : FnOk P w K mg base (L2.CX P w) 3 T.f_check_depth T.fd_check_depth ["depth", "most"] (sp_check_depth K T.C_InvalidDepth) := by
  refine T.F_check_depth.ok (CX := L2.CX P w) sc_check_depth (fun vs H Q E h => by obtain ⟨v, hi, b, rfl, _⟩ := h; rfl) (fun cdv A outer s H vs Q E hr h => ?_)
  obtain ⟨v, hi, b, rfl, hv, q1, q2⟩ := h
  refine ⟨_, (pss_one (ps_if (pt_not (pt_val (pe_call (G_is_between (P := P) T) (hr.mono (by decide)) (by rfl) T.g_is_between T.F_is_between.kp T.b_is_between .nil pass0 (pa_cons (pv 0) (pa_cons pe_int (pa_cons (pv 1) pa_nil))))))
    (pss_one (ps_raise rfl (takes_of rfl rfl rfl rfl) (pmk_oex T.er_InvalidDepth.sup.T T.er_InvalidDepth.ini T.er_InvalidDepth.ity (G_InvalidDepth___init__ (P := P) (CX := CX0) T) (hr.mono (by decide)) T.er_InvalidDepth.bnd .nil pass0 (by rfl) T.gc_InvalidDepth (pa_cons (pv 0) pa_nil))))
    pss_nil)), ?_⟩
  refine ⟨_, rfl, _, rfl, v, 1, some hi, b, rfl, hv, _, rfl, ?_⟩
  cases b with
  | true => exact iteF (q1 rfl)
  | false => exact iteT ⟨_, rfl, mk_sup fun d nd => q2 rfl d nd⟩
theorem all_ints : ∀ ws : List Int, (ws.map V.int).all isI = true
  | [] => rfl
  | w :: r => by rw [List.map_cons, List.all_cons, all_ints r]; rfl
theorem simple_ints {K : PySem.W.Frag} {H : Hp} (ws : List Int) : ∀ x ∈ ws.map V.int, Item K H x := fun x hx => by
  obtain ⟨i, _, rfl⟩ := List.mem_map.mp hx
  exact .inl ⟨i, rfl⟩
def sp_check_rule (K : PySem.W.Frag) (C : Addr) : Sp := fun vs H Q E => ∃ v : V, vs = [v] ∧ ((∃ (a : Addr) (ws : List Int), v = .ref a ∧ H a = some (.lst (ws.map V.int)) ∧ GoodR ws ∧ ∀ H', Same H H' → Q .non H') ∨
  (BadR K H v ∧ ∀ H' d, Same H H' → H' d = none → E (.ref C) (some d) (upd H' d (.xd [("value", v)]))))
theorem G_check_rule (T : Top K mg) : FnOk P w K mg base (L2.CX P w) 3 T.f_check_rule T.fd_check_rule ["weights"] (sp_check_rule K T.C_InvalidWeights) := by
  refine T.F_check_rule.ok (CX := L2.CX P w) sc_check_rule (fun vs H Q E h => by obtain ⟨v, rfl, _⟩ := h; rfl) (fun cdv A outer s H vs Q E hr h => ?_)
  obtain ⟨v, rfl, h⟩ := h
  refine ⟨_, (pss_cons (ps_if (PW.pt (pw_or (pt_not (pt_val (pe_call (G_are_wholes (P := P) T) (hr.mono (by decide)) (by rfl) T.g_are_wholes T.F_are_wholes.kp T.b_are_wholes .nil pass0 (pa_cons (pv 0) pa_nil)))) (pw_or1 (pt_cmpR op_gt (pe_callB (k_len K rfl) (by rfl) T.n_len (by decide +kernel) (pa_cons (pv 0) pa_nil)) (pe_glob (v := .int 8) rfl T.m_MOST_WEIGHTS ⟨_, rfl⟩) (nomark _)))))
    (pss_one (ps_raise rfl (takes_of rfl rfl rfl rfl) (pmk_oex T.er_InvalidWeights.sup.T T.er_InvalidWeights.ini T.er_InvalidWeights.ity (G_InvalidWeights___init__ (P := P) (CX := CX0) T) (hr.mono (by decide)) T.er_InvalidWeights.bnd .nil pass0 (by rfl) T.gc_InvalidWeights (pa_cons (pv 0) pa_nil))))
    pss_nil)
  (pss_one (ps_if (pt_cmpR (k_neD K rfl hr.units) (pe_lc (own := [("weight", 1)]) (g := gName 1) (by rfl) sc_check_rule.nd (k_piL K rfl (pv 0)) (blkOk_by (own := [("weight", 1)]) (N := N_check_rule) (sc := defScope s_check_rule) (by decide +kernel)) (fun _ _ _ _ _ => (pg_name (i := 1) sc_check_rule.nd rfl (by first | exact Or.inl rfl | exact Or.inr rfl))) (fun _ _ _ _ _ => (pts_one (pt_cmpR op_gt (pe_callB call_abs (by rfl) T.n_abs (by decide +kernel) (pa_cons (pv 1) pa_nil)) (pe_glob (v := .int 32768) rfl T.m_MOST_WEIGHT ⟨_, rfl⟩) (nomark _)))) (fun _ _ _ _ _ => (pv 1))) (pe_lst pa_nil) (nomark _))
    (pss_one (ps_raise rfl (takes_of rfl rfl rfl rfl) (pmk_oex T.er_InvalidWeights.sup.T T.er_InvalidWeights.ini T.er_InvalidWeights.ity (G_InvalidWeights___init__ (P := P) (CX := CX0) T) (hr.mono (by decide)) T.er_InvalidWeights.bnd .nil pass0 (by rfl) T.gc_InvalidWeights (pa_cons (pv 0) pa_nil))))
    pss_nil))), ?_⟩
  rcases h with ⟨a, ws, rfl, ha, ⟨g1, g2⟩, q⟩ | ⟨hv | ⟨a, xs, rfl, ha, hz, hs, hb⟩, q⟩
  · refine ⟨_, rfl, _, rfl, .inr ⟨a, _, rfl, ha, by rw [List.length_map]; omega, simple_ints ws, fun H1 s1 => ?_⟩⟩
    rw [all_ints]
    refine ⟨_, rfl, iteF ?_⟩
    refine ⟨_, rfl, a, _, rfl, .inl (.inl (.inl (s1 _ _ ha))), _, _, rfl, rfl, _, rfl, iteDF (by rw [List.length_map]; omega) ?_⟩
    refine ⟨_, rfl, a, rfl, ⟨_, .inl (.inl (s1 _ _ ha))⟩, fun D nD => ?_⟩
    refine lc_selL (K := K) (xs := ws.map V.int) (ws.map fun _ => none) nD (.inl (.inl (s1 _ _ ha))) (by rw [List.length_map, List.length_map]) (by rw [List.length_map]; exact small4 (by omega)) (fun x => rfl) ?_ ?_
    · intro i x o H' hx ho s Qt qt
      obtain ⟨w, hw, rfl⟩ := int_at hx
      rw [List.getElem?_map, hw] at ho
      cases ho
      have := g2 w (List.mem_of_getElem? hw)
      refine ⟨_, rfl, _, rfl, _, _, rfl, rfl, _, rfl, iteDF ?_ (qt _ (Same.refl _))⟩
      split <;> omega
    · intro H2 s2 hD
      rw [fm_noneN] at hD
      refine ⟨Nat.zero_le _, fun p np => ?_⟩
      refine ne_lst (ns := []) (.inl (.inl (same_upd np _ _ hD))) (.inl (.inl upd_same)) ⟨_, rfl, iteF ?_⟩
      exact q _ ((s1.trans s2).trans (same_upd np))
  · refine ⟨_, rfl, v, rfl, .inl ⟨hv, ⟨_, rfl, iteT ?_⟩⟩⟩
    exact iteT ⟨_, rfl, mk_sup fun d nd => q _ d (Same.refl _) nd⟩
  · refine ⟨_, rfl, _, rfl, .inr ⟨a, xs, rfl, ha, hz, hs, fun H1 s1 => ?_⟩⟩
    rcases hb with hb | ⟨ws, rfl, hb⟩
    · rw [hb]
      refine ⟨_, rfl, iteT ?_⟩
      exact iteT ⟨_, rfl, mk_sup fun d nd => q _ d s1 nd⟩
    · rw [all_ints]
      rw [List.length_map] at hz
      refine ⟨_, rfl, iteF ?_⟩
      refine ⟨_, rfl, a, _, rfl, .inl (.inl (.inl (s1 _ _ ha))), _, _, rfl, rfl, _, rfl, ?_⟩
      by_cases h8 : 8 < ws.length
      · refine iteDT (by rw [List.length_map]; omega) ?_
        exact ⟨_, rfl, mk_sup fun d nd => q _ d s1 nd⟩
      · refine iteDF (by rw [List.length_map]; omega) ?_
        obtain ⟨w0, hw0, hbig⟩ := hb.resolve_left h8
        refine ⟨_, rfl, a, rfl, ⟨_, .inl (.inl (s1 _ _ ha))⟩, fun D nD => ?_⟩
        refine lc_selL (K := K) (xs := ws.map V.int) (ws.map fun w => if decide (32768 < w.natAbs) = true then some (V.int w) else none) nD (.inl (.inl (s1 _ _ ha))) (by rw [List.length_map, List.length_map]) (by rw [List.length_map]; exact small4 (by omega)) (fun x => rfl) ?_ ?_
        · intro i x o H' hx ho s Qt qt
          obtain ⟨w, hw, rfl⟩ := int_at hx
          rw [List.getElem?_map, hw] at ho
          cases ho
          dsimp only at qt
          refine ⟨_, rfl, _, rfl, _, _, rfl, rfl, _, rfl, ?_⟩
          by_cases c : 32768 < w.natAbs
          · rw [if_pos (decide_eq_true c)] at qt
            refine iteDT ?_ ⟨_, rfl, qt _ (Same.refl _)⟩
            split <;> omega
          · rw [if_neg (by rw [decide_eq_false c]; decide)] at qt
            refine iteDF ?_ (qt _ (Same.refl _))
            split <;> omega
        · intro H2 s2 hD
          have ef : (ws.map fun w => if decide (32768 < w.natAbs) = true then some (V.int w) else none).filterMap id = (ws.filter fun w => decide (32768 < w.natAbs)).map V.int := by
            clear hD hw0 hbig hb ha hs h8 hz
            induction ws with
            | nil => rfl
            | cons x r ih =>
              rw [List.map_cons, List.filterMap_cons, List.filter_cons]
              by_cases c : decide (32768 < x.natAbs) = true
              · rw [if_pos c, if_pos c, List.map_cons, ← ih]; rfl
              · rw [if_neg c, if_neg c, ← ih]; rfl
          rw [ef] at hD
          refine ⟨Nat.zero_le _, fun p np => ?_⟩
          refine neD_lst (ns := ws.filter fun w => decide (32768 < w.natAbs)) (ms := []) (.inl (.inl (same_upd np _ _ hD))) (.inl (.inl upd_same)) ⟨_, rfl, ?_⟩
          rw [decide_eq_false (fun e => by
            have : w0 ∈ ws.filter fun w => decide (32768 < w.natAbs) := List.mem_filter.mpr ⟨hw0, decide_eq_true hbig⟩
            rw [e] at this
            cases this)]
          exact iteT ⟨_, rfl, mk_sup fun d nd => q _ d ((s1.trans s2).trans (same_upd np)) nd⟩
end
end My

namespace My
/-! ### products of rules -/
theorem sumN_split (s n : Nat) (f : Nat → Int) : sumN (s + n) f = sumN s f + sumN n fun i => f (s + i) := by
  induction n with
  | zero => simp [sumN]
  | succ n ih => rw [← Nat.add_assoc, sumN, ih, sumN]; omega
theorem sumN_shift {L s b : Nat} (h : s + b ≤ L) (g : Nat → Int) : sumN L (fun k => if s ≤ k ∧ k - s < b then g (k - s) else 0) = sumN b g := by
  obtain ⟨n, rfl⟩ := Nat.le.dest (show s ≤ L by omega)
  rw [sumN_split, sumN_none fun k hk => if_neg (by omega), Int.zero_add, sumN_cut (k := b) (by omega) fun i h1 _ => if_neg (by omega)]
  refine sumN_congr fun i hi => ?_
  rw [if_pos (by omega), show s + i - s = i by omega]
/-- the product's powers, spots below i done, places below j of the i-th -/
def cvF (A B : List Int) (i j : Nat) (k : Nat) : Int := (sumN i fun s => if s ≤ k ∧ k - s < B.length then A.getD s 0 * B.getD (k - s) 0 else 0) + if i ≤ k ∧ k - i < j then A.getD i 0 * B.getD (k - i) 0 else 0
theorem cvF_nil (A B : List Int) (k : Nat) : cvF A B 0 0 k = 0 := by
  unfold cvF
  rw [if_neg (by omega)]
  rfl
theorem cvF_step (A B : List Int) (i j k : Nat) : cvF A B i (j + 1) k = if k = i + j then cvF A B i j k + A.getD i 0 * B.getD j 0 else cvF A B i j k := by
  unfold cvF
  by_cases c : k = i + j
  · rw [if_pos c, if_pos (by omega), if_neg (by omega), show k - i = j by omega]
    omega
  · rw [if_neg c]
    congr 1
    by_cases c2 : i ≤ k ∧ k - i < j
    · rw [if_pos c2, if_pos (by omega)]
    · rw [if_neg c2, if_neg (by omega)]
theorem cvF_next (A B : List Int) (i k : Nat) : cvF A B i B.length k = cvF A B (i + 1) 0 k := by
  unfold cvF
  rw [if_neg (show ¬ (i + 1 ≤ k ∧ k - (i + 1) < 0) by omega), sumN, Int.add_zero]
/-- the product -/
def prodF (A B : List Int) (k : Nat) : Int := cvF A B A.length 0 k
theorem prodF_eq (A B : List Int) (k : Nat) : prodF A B k = sumN A.length fun s => if s ≤ k ∧ k - s < B.length then A.getD s 0 * B.getD (k - s) 0 else 0 := by
  unfold prodF cvF
  rw [if_neg (by omega), Int.add_zero]
theorem prodF_sum (A B : List Int) (hB : 0 < B.length) (r : Nat → Int) (i : Nat) : (sumN (A.length + B.length - 1) fun k => prodF A B k * r (i + k)) = sumN B.length fun t => B.getD t 0 * sumN A.length fun s => A.getD s 0 * r (i + t + s) := by
  have e1 : (sumN (A.length + B.length - 1) fun k => prodF A B k * r (i + k)) = sumN (A.length + B.length - 1) fun k => sumN A.length fun s => if s ≤ k ∧ k - s < B.length then A.getD s 0 * B.getD (k - s) 0 * r (i + s + (k - s)) else 0 := by
    refine sumN_congr fun k _ => ?_
    rw [prodF_eq, Int.mul_comm, ← sumN_mul]
    refine sumN_congr fun s _ => ?_
    by_cases c : s ≤ k ∧ k - s < B.length
    · rw [if_pos c, if_pos c, Int.mul_comm, show i + s + (k - s) = i + k by omega]
    · rw [if_neg c, if_neg c, Int.mul_zero]
  rw [e1, sumN_swap]
  have e2 : (sumN A.length fun s => sumN (A.length + B.length - 1) fun k => if s ≤ k ∧ k - s < B.length then A.getD s 0 * B.getD (k - s) 0 * r (i + s + (k - s)) else 0) = sumN A.length fun s => sumN B.length fun t => A.getD s 0 * B.getD t 0 * r (i + s + t) := by
    refine sumN_congr fun s hs => ?_
    exact sumN_shift (g := fun t => A.getD s 0 * B.getD t 0 * r (i + s + t)) (by omega)
  rw [e2, sumN_swap]
  refine sumN_congr fun t _ => ?_
  rw [← sumN_mul]
  refine sumN_congr fun s _ => ?_
  rw [Int.mul_comm (A.getD s 0), Int.mul_assoc, show i + s + t = i + t + s by omega]
/-- as a rule again -/
def prodL (A B : List Int) : List Int := (((List.range (A.length + B.length - 2)).map fun k => -prodF A B k)).reverse
theorem prodL_len (A B : List Int) : (prodL A B).length = A.length + B.length - 2 := by unfold prodL; rw [List.length_reverse, List.length_map, List.length_range]
theorem asP_last (u : List Int) : (asP u).getD u.length 0 = 1 := by
  unfold asP
  rw [List.getD_eq_getElem?_getD, List.getElem?_append_right (by rw [List.length_map, List.length_reverse]; exact Nat.le_refl _), List.length_map, List.length_reverse, Nat.sub_self]
  rfl
theorem prod_tell (w u : List Int) (r : Nat → Int) (i : Nat) : (sumN (asP (prodL (asP w) (asP u))).length fun p => (asP (prodL (asP w) (asP u))).getD p 0 * r (i + p)) = sumN (asP u).length fun t => (asP u).getD t 0 * sumN (asP w).length fun s => (asP w).getD s 0 * r (i + t + s) := by
  rw [← prodF_sum (asP w) (asP u) (by rw [asP_len]; omega), asP_len, prodL_len, asP_len, asP_len]
  rw [show w.length + 1 + (u.length + 1) - 2 + 1 = w.length + 1 + (u.length + 1) - 1 by omega]
  refine sumN_congr fun k hk => ?_
  congr 1
  by_cases c : k = w.length + u.length
  · have e : (asP (prodL (asP w) (asP u))).getD k 0 = 1 := by
      have := asP_last (prodL (asP w) (asP u))
      rw [prodL_len, asP_len, asP_len] at this
      rw [c, ← this]
      congr 1
      omega
    rw [e, prodF_eq, asP_len, sumN_only (k := w.length) (Nat.lt_succ_self _) fun s hs ne => by rw [if_neg (by rw [asP_len]; omega)], if_pos (by rw [asP_len]; omega), asP_last, show k - w.length = u.length by omega, asP_last]
    rfl
  · have hk2 : k < w.length + 1 + (u.length + 1) - 2 := by omega
    unfold asP
    rw [List.getD_eq_getElem?_getD, List.getElem?_append_left (by rw [List.length_map, List.length_reverse, prodL_len]; simp; omega), List.getElem?_map]
    unfold prodL
    rw [List.reverse_reverse, List.getElem?_map, List.getElem?_range (by simp; omega)]
    show - -(_ : Int) = _
    rw [Int.neg_neg]
theorem fol_prod {N : Int} {w u : List Int} {r : Nat → Int} (h : Fol N w r) (i : Nat) : N ∣ sumN (asP (prodL (asP w) (asP u))).length fun p => (asP (prodL (asP w) (asP u))).getD p 0 * r (i + p) := by
  rw [prod_tell]
  exact sumN_dvd fun t _ => Int.dvd_mul_of_dvd_right (fol_asP.mp h (i + t))
theorem sumN_abs {n : Nat} {f : Nat → Int} {c : Nat} (h : ∀ i, i < n → (f i).natAbs ≤ c) : (sumN n f).natAbs ≤ n * c := by
  induction n with
  | zero => simp [sumN]
  | succ n ih =>
    rw [sumN]
    have h1 := ih fun i hi => h i (by omega)
    have h2 := h n (Nat.lt_succ_self n)
    have h3 := Int.natAbs_add_le (sumN n f) (f n)
    rw [Nat.succ_mul]
    omega
theorem small_getD {A : List Int} {c : Nat} (h : ∀ x ∈ A, x.natAbs ≤ c) (i : Nat) : (A.getD i 0).natAbs ≤ c := by
  rw [List.getD_eq_getElem?_getD]
  by_cases hi : i < A.length
  · rw [List.getElem?_eq_getElem hi]
    exact h _ (List.getElem_mem hi)
  · rw [List.getElem?_eq_none (by omega)]
    exact Nat.zero_le _
theorem asP_small {u : List Int} {c : Nat} (hc : 1 ≤ c) (h : ∀ x ∈ u, x.natAbs ≤ c) : ∀ x ∈ asP u, x.natAbs ≤ c := by
  intro x hx
  unfold asP at hx
  rcases List.mem_append.mp hx with hx | hx
  · obtain ⟨y, hy, rfl⟩ := List.mem_map.mp hx
    rw [Int.natAbs_neg]
    exact h y (List.mem_reverse.mp hy)
  · rw [List.mem_singleton.mp hx]
    exact hc
theorem cvF_small {A B : List Int} (hA : ∀ x ∈ A, x.natAbs ≤ 3) (hB : ∀ x ∈ B, x.natAbs ≤ 3) {i j k : Nat} (hi : i ≤ 8) : (cvF A B i j k).natAbs ≤ 100 := by
  have one : ∀ s t, (A.getD s 0 * B.getD t 0).natAbs ≤ 9 := fun s t => by
    rw [Int.natAbs_mul]
    exact Nat.mul_le_mul (small_getD hA s) (small_getD hB t)
  unfold cvF
  have h1 : (sumN i fun s => if s ≤ k ∧ k - s < B.length then A.getD s 0 * B.getD (k - s) 0 else 0).natAbs ≤ i * 9 := sumN_abs fun s _ => by
    split
    · exact one _ _
    · exact Nat.zero_le _
  have h2 : (if i ≤ k ∧ k - i < j then A.getD i 0 * B.getD (k - i) 0 else 0).natAbs ≤ 9 := by
    split
    · exact one _ _
    · exact Nat.zero_le _
  have h3 := Int.natAbs_add_le (sumN i fun s => if s ≤ k ∧ k - s < B.length then A.getD s 0 * B.getD (k - s) 0 else 0) (if i ≤ k ∧ k - i < j then A.getD i 0 * B.getD (k - i) 0 else 0)
  omega
theorem prodL_small {A B : List Int} (hA : ∀ x ∈ A, x.natAbs ≤ 3) (hB : ∀ x ∈ B, x.natAbs ≤ 3) (h : A.length ≤ 8) : ∀ x ∈ prodL A B, x.natAbs ≤ 100 := by
  intro x hx
  unfold prodL at hx
  obtain ⟨k, _, rfl⟩ := List.mem_map.mp (List.mem_reverse.mp hx)
  rw [Int.natAbs_neg]
  exact cvF_small hA hB h
end My

namespace My
open PySem PySem.Spec PyProof.Rows L2 Pre
/-! ### powers led back by a rule, in a program -/
/-- a row of whole numbers told by a function -/
def rowZ (n : Nat) (f : Nat → Int) : List V := (List.range n).map fun p => V.int (f p)
theorem rowZ_len (n : Nat) (f : Nat → Int) : (rowZ n f).length = n := by unfold rowZ; rw [List.length_map, List.length_range]
theorem rowZ_get {n : Nat} (f : Nat → Int) {i : Nat} (h : i < n) : (rowZ n f)[i]? = some (.int (f i)) := by
  unfold rowZ
  rw [List.getElem?_map, List.getElem?_range h]
  rfl
theorem rowZ_ext {n : Nat} {f : Nat → Int} {xs : List V} (hl : xs.length = n) (h : ∀ i, i < n → xs[i]? = some (.int (f i))) : xs = rowZ n f := by
  refine List.ext_getElem? fun i => ?_
  by_cases hi : i < n
  · rw [h i hi, rowZ_get f hi]
  · rw [List.getElem?_eq_none (by omega), List.getElem?_eq_none (by rw [rowZ_len]; omega)]
theorem rowZ_congr {n : Nat} {f g : Nat → Int} (e : ∀ i, i < n → f i = g i) : rowZ n f = rowZ n g := rowZ_ext (rowZ_len n f) fun i hi => by rw [rowZ_get f hi, e i hi]
theorem rowZ_ints (n : Nat) (f : Nat → Int) : rowZ n f = ((List.range n).map f).map V.int := by
  unfold rowZ
  rw [List.map_map]
  rfl
theorem ints_rowZ (ws : List Int) : ws.map V.int = rowZ ws.length fun p => ws.getD p 0 := rowZ_ext (List.length_map _) fun i hi => by
  rw [List.getElem?_map, List.getD_eq_getElem?_getD, List.getElem?_eq_getElem hi]
  rfl
theorem rowZ_set {n s : Nat} {v : Int} {f g : Nat → Int} (hs : s < n) (e1 : g s = v) (e2 : ∀ i, i ≠ s → f i = g i) : (rowZ n f).set s (.int v) = rowZ n g := by
  refine rowZ_ext (by rw [List.length_set, rowZ_len]) fun i hi => ?_
  rw [List.getElem?_set]
  by_cases c : s = i
  · subst c
    rw [if_pos rfl, if_pos (by rw [rowZ_len]; exact hs), e1]
  · rw [if_neg c, rowZ_get f hi, e2 i fun h => c h.symm]
theorem rowZ_take {n k : Nat} (h : k ≤ n) (f : Nat → Int) : (rowZ n f).take k = rowZ k f := rowZ_ext (by rw [List.length_take, rowZ_len]; omega) fun i hi => by rw [List.getElem?_take, if_pos hi, rowZ_get f (by omega)]
theorem rep_int (k : Nat) (x : Int) : (List.replicate k [V.int x]).flatten = (List.replicate k x).map V.int := by
  induction k with
  | zero => rfl
  | succ k ih => rw [List.replicate_succ, List.flatten_cons, ih, List.replicate_succ]; rfl
/-- powers padded -/
theorem pad_row (N : Int) (w q : List Int) : (q.map fun x => V.int (x % N)) ++ (List.replicate (w.length - q.length) (0 : Int)).map V.int = rowZ (lenP w q) (iniP N q) := by
  refine rowZ_ext (by rw [List.length_append, List.length_map, List.length_map, List.length_replicate]; unfold lenP; omega) fun i hi => ?_
  unfold iniP
  by_cases c : i < q.length
  · rw [List.getElem?_append_left (by rw [List.length_map]; exact c), List.getElem?_map, List.getD_eq_getElem?_getD, List.getElem?_eq_getElem c]
    rfl
  · rw [List.getElem?_append_right (by rw [List.length_map]; omega), List.length_map, List.getElem?_map, List.getElem?_replicate, if_pos (by unfold lenP at hi; omega), List.getD_eq_getElem?_getD, List.getElem?_eq_none (l := q) (by omega)]
    show some (V.int 0) = some (V.int ((0 : Int) % N))
    rw [Int.zero_emod]
theorem updW_step {N : Int} {w : List Int} {f : Nat → Int} {top k : Nat} (h : k < w.length) (ht : w.length ≤ top) (p : Nat) : updW N w f top (k + 1) p = if p = top - 1 - k then (updW N w f top k p + f top * w.getD k 0) % N else updW N w f top k p := by
  unfold updW
  by_cases e : p = top - 1 - k
  · rw [if_pos e, if_pos ⟨by omega, by omega⟩, if_neg (by omega), show top - 1 - p = k by omega]
  · rw [if_neg e]
    by_cases c : p < top ∧ top - 1 - p < k
    · rw [if_pos ⟨c.1, by omega⟩, if_pos c]
    · rw [if_neg (by omega), if_neg c]
theorem updW_top {N : Int} {w : List Int} {f : Nat → Int} {top k : Nat} : updW N w f top k top = f top := by
  unfold updW
  rw [if_neg (by omega)]
theorem updW_nil {N : Int} {w : List Int} {f : Nat → Int} {top : Nat} (p : Nat) : updW N w f top 0 p = f p := by
  unfold updW
  rw [if_neg (by omega)]
theorem pow_le_pow2 {d : Nat} (h : d ≤ 24) : (2 : Int) ^ d ≤ 2 ^ 24 := by
  have := Nat.pow_le_pow_right (show 0 < 2 by decide) h
  have e : (((2 ^ d : Nat)) : Int) ≤ ((2 ^ 24 : Nat) : Int) := Int.ofNat_le.mpr this
  rw [Int.natCast_pow, Int.natCast_pow] at e
  exact e
local macro_rules | `(tactic| walk_at "go") => `(tactic| repeat (first | (with_reducible first | refine iteT ?_ | refine iteF ?_ | refine iteNtt ?_ | refine iteNff ?_ | refine iteET (by omega) ?_ | refine iteEF (by omega) ?_ | refine iteENT (by omega) ?_ | refine iteENF (by omega) ?_ | refine iteDT (by omega) ?_ | refine iteDF (by omega) ?_ | refine iteNT (by omega) ?_ | refine iteNF (by omega) ?_) | refine ⟨_, rfl, ?_⟩ | refine ⟨_, _, rfl, rfl, ?_⟩ | refine ⟨_, _, rfl, ?_⟩ | refine ⟨rfl, ?_⟩ | refine .inl ⟨_, rfl, ?_⟩ | refine .inr ⟨_, rfl, ?_⟩))
local macro_rules | `(tactic| walk_at "b") => `(tactic| try dsimp (config := { proj := false, iota := false, eta := false, zeta := false }) only)
section
variable {P : Program} {w : World} {K : PySem.W.Frag} {mg : Str → Option Value} {base : Heap} [pf : Sup.PF P fileS]
def sp_reduced (K : PySem.W.Frag) : Sp := fun vs H Q _ => ∃ (a b : Addr) (ws q : List Int) (N : Int), vs = [.ref a, .ref b, .int N] ∧ H a = some (.lst (ws.map V.int)) ∧ H b = some (.lst (q.map V.int)) ∧ GoodR ws ∧ q.length ≤ 20 ∧ 0 < N ∧ N ≤ 2 ^ 24 ∧ ∀ H' p, Same H H' → H p = none → H' p = some (.lst (rowZ ws.length (redP N ws q))) → Q (.ref p) H'
theorem G_reduced (T : Top K mg) : FnOk P w K mg base CX0 1 T.f_reduced T.fd_reduced ["weights", "powers", "size"] (sp_reduced K) := by
  refine T.F_reduced.ok sc_reduced (fun vs H Q E h => by obtain ⟨a, b, ws, qs, N, rfl, _⟩ := h; rfl) (fun cdv A outer s H vs Q E hr h => ?_)
  obtain ⟨a, b, ws, qs, N, rfl, ha, hb, ⟨g1, g2⟩, hq, hN, hN2, q⟩ := h
  refine ⟨_, PSs.nox (pss_cons (ps_set (i := 3) sc_reduced.nd rfl (by first | exact Or.inl rfl | exact Or.inr rfl) (pe_callB (k_len K rfl) (by rfl) T.n_len (by decide +kernel) (pa_cons (pv 0) pa_nil)))
  (pss_cons (ps_set (i := 4) sc_reduced.nd rfl (by first | exact Or.inl rfl | exact Or.inr rfl) (pe_op op_cat (pe_lc (own := [("number", 9)]) (g := gName 9) (tt := tYes) (by rfl) sc_reduced.nd (k_piL K rfl (pv 1)) (blkOk_by (own := [("number", 9)]) (N := N_reduced) (sc := defScope s_reduced) (by decide +kernel)) (fun _ _ _ _ _ => (pg_name (i := 9) sc_reduced.nd rfl (by first | exact Or.inl rfl | exact Or.inr rfl))) (fun _ _ _ _ _ => pts_nil) (fun _ _ _ _ _ => (pe_op op_mod (pv 9) (pv 2)))) (pe_op op_rep (pe_lst (pa_cons pe_int pa_nil)) (pe_op op_sub (pv 3) (pe_callB (k_len K rfl) (by rfl) T.n_len (by decide +kernel) (pa_cons (pv 1) pa_nil))))))
  (pss_cons (ps_for PassesOwn.never rfl (pi_range3 (by rfl) T.n_range (pa_cons (pe_op op_sub (pe_callB (k_len K rfl) (by rfl) T.n_len (by decide +kernel) (pa_cons (pv 4) pa_nil)) pe_int) (pa_cons (pe_op op_sub (pv 3) pe_int) (pa_cons (pe_un un_neg pe_int) pa_nil)))) (pg_name (i := 5) sc_reduced.nd rfl (by first | exact Or.inl rfl | exact Or.inr rfl))
    (pss_cons (ps_set (i := 6) sc_reduced.nd rfl (by first | exact Or.inl rfl | exact Or.inr rfl) (pe_ix (k_ixL K rfl) (pv 4) (pv 5) (fun _ _ => rfl)))
  (pss_one (ps_for PassesOwn.never rfl (k_piE K rfl (by rfl) T.n_enumerate (pa_cons (pv 0) pa_nil)) (k_pgT K rfl (by rfl) (pgs_cons (pg_name (i := 7) sc_reduced.nd rfl (by first | exact Or.inl rfl | exact Or.inr rfl)) (pgs_cons (pg_name (i := 8) sc_reduced.nd rfl (by first | exact Or.inl rfl | exact Or.inr rfl)) pgs_nil)))
    (pss_one (ps_asg (pe_op op_mod (pe_op op_add (pe_ix (k_ixL K rfl) (pv 4) (pe_op op_sub (pe_op op_sub (pv 5) pe_int) (pv 7)) (fun _ _ => rfl)) (pe_op op_mul (pv 6) (pv 8))) (pv 2)) (pg_sub (pv 4) (pe_op op_sub (pe_op op_sub (pv 5) pe_int) (pv 7)) set_list)))))))
  (pss_one (ps_ret (pe_slice (k_slL K rfl) (pv 4) po_none (po_some (pv 3)))))))), ?_⟩
  refine ⟨_, rfl, a, _, rfl, .inl (.inl (.inl ha)), ?_⟩
  rw [List.length_map]
  refine ⟨_, rfl, b, rfl, ⟨_, .inl (.inl hb)⟩, fun D nD => ?_⟩
  refine lc_mapL (K := K) (xs := qs.map V.int) (qs.map fun x => V.int (x % N)) nD (.inl (.inl hb)) (by rw [List.length_map, List.length_map]) (by rw [List.length_map]; exact small4 (by omega)) (fun x => rfl) ?_ ?_
  · intro i x y H' hx hy s Qt qt
    obtain ⟨n, hn, rfl⟩ := int_at hx
    rw [List.getElem?_map, hn] at hy
    cases hy
    exact ⟨_, rfl, _, rfl, _, _, rfl, rfl, hN, qt _ (Same.refl _)⟩
  · intro H1 s1 hD
    refine ⟨(by show 1 ≤ sizeLine; decide), fun p1 np1 => ?_⟩
    obtain ⟨H2, e2, s2, hp1⟩ := fresh (.lst [V.int 0]) np1
    rw [e2]
    refine ⟨_, rfl, _, rfl, b, _, rfl, .inl (.inl (.inl (s2 _ _ (s1 _ _ hb)))), _, _, rfl, rfl, ?_⟩
    dsimp only
    rw [List.length_map]
    refine ⟨p1, _, _, rfl, rfl, hp1, by omega, by omega, by rw [sizeLine_eq]; show 1 * _ ≤ _; omega, fun p2 np2 => ?_⟩
    rw [show (((ws.length : Nat) : Int) - ((qs.length : Nat) : Int)).toNat = ws.length - qs.length by omega, rep_int]
    obtain ⟨H3, e3, s3, hp2⟩ := fresh (.lst ((List.replicate (ws.length - qs.length) (0 : Int)).map V.int)) np2
    rw [e3]
    refine ⟨D, p2, _, _, rfl, rfl, s3 _ _ (s2 _ _ hD), hp2, by rw [List.length_map, List.length_map, List.length_replicate, sizeLine_eq]; omega, fun p3 np3 => ?_⟩
    rw [pad_row]
    have hL : lenP ws qs ≤ 20 := by unfold lenP; omega
    have hLw : ws.length ≤ lenP ws qs := by unfold lenP; omega
    obtain ⟨H4, e4, s4, hp3⟩ := fresh (.lst (rowZ (lenP ws qs) (iniP N qs))) np3
    rw [e4]
    have s04 := ((s1.trans s2).trans s3).trans s4
    have np3H : H p3 = none := ((s1.trans s2).trans s3).free np3
    have ha4 := s04 _ _ ha
    refine ⟨_, rfl, p3, _, rfl, .inl (.inl (.inl hp3)), _, _, rfl, rfl, _, rfl, _, _, rfl, rfl, _, rfl, ?_⟩
    refine ⟨_, _, _, _, rfl, RgC.neg (by rw [rowZ_len]; omega) (by rw [rowZ_len]; omega) (by omega) (by omega), ?_⟩
    walk_at "b"
    rw [rowZ_len, show (((lenP ws qs : Nat) : Int) - 1 - (((ws.length : Nat) : Int) - 1)).toNat = lenP ws qs - ws.length by omega]
    refine for_rangeC (lo := ((lenP ws qs : Nat) : Int) - 1) (c := -1) (n := lenP ws qs - ws.length) (fun t σ H5 => ∃ v5 v6 v7 v8 : Option V, σ = [some (.ref a), some (.ref b), some (.int N), some (.int (ws.length : Nat)), some (.ref p3), v5, v6, v7, v8, none] ∧ Same H H5 ∧ H5 p3 = some (.lst (rowZ (lenP ws qs) (ledN N ws (iniP N qs) (lenP ws qs) t)))) ⟨none, none, none, none, rfl, s04, hp3⟩ ?_ ?_
    · rintro t σ H5 ht ⟨v5, v6, v7, v8, rfl, s5, hp5⟩
      rw [show (((lenP ws qs : Nat) : Int) - 1 + (t : Nat) * (-1)) = ((lenP ws qs - 1 - t : Nat) : Int) by omega]
      have hled : ledN N ws (iniP N qs) (lenP ws qs) (t + 1) = updW N ws (ledN N ws (iniP N qs) (lenP ws qs) t) (lenP ws qs - 1 - t) ws.length := rfl
      rw [hled]
      have htop : ws.length ≤ lenP ws qs - 1 - t := by omega
      have htl : lenP ws qs - 1 - t < lenP ws qs := by omega
      generalize ledN N ws (iniP N qs) (lenP ws qs) t = f at *
      generalize lenP ws qs - 1 - t = top at *
      generalize lenP ws qs = L at *
      refine ⟨_, rfl, _, rfl, p3, _, _, _, rfl, rfl, .inl (.inl hp5), atI_nat (rowZ_get f htl), ?_⟩
      refine ⟨_, rfl, a, _, rfl, .inl (.inl (s5 _ _ ha)), ?_⟩
      refine for_it (walk_enum (K := K) (a := a) (xs := ws.map V.int)) (fun k σ H6 => ∃ v7 v8 : Option V, σ = [some (.ref a), some (.ref b), some (.int N), some (.int (ws.length : Nat)), some (.ref p3), some (.int (top : Nat)), some (.int (f top)), v7, v8, none] ∧ Same H H6 ∧ H6 p3 = some (.lst (rowZ L (updW N ws f top k)))) ⟨v7, v8, rfl, s5, by rw [hp5, rowZ_congr fun i _ => (updW_nil i).symm]⟩ (fun k σ H6 _ ⟨_, _, _, s6, _⟩ => .inl (.inl (s6 _ _ ha))) ?_ ?_
      · rintro k x σ H6 H7 hk ⟨v7, v8, rfl, s6, hp6⟩ ⟨T1, x1, y1, rfl, nT, rfl, ex, ey⟩
        dsimp only at ex ey
        cases ex
        obtain ⟨wk, hwk, rfl⟩ := int_at ey
        have hk' : k < ws.length := by rw [List.length_map] at hk; exact hk
        have ewk : ws.getD k 0 = wk := by rw [List.getD_eq_getElem?_getD, hwk]; rfl
        refine ⟨T1, _, rfl, .inl (.inl upd_same), rfl, _, _, rfl, _, _, rfl, rfl, ?_⟩
        have sT := same_upd (o := .tup [V.int (k : Int), V.int wk]) nT
        have hp7 := sT _ _ hp6
        generalize upd H6 T1 (.tup [V.int (k : Int), V.int wk]) = H7 at *
        have eix : ((top : Int) - 1 - (k : Int)) = ((top - 1 - k : Nat) : Int) := by omega
        have hix : top - 1 - k < L := by omega
        have hw := g2 wk (List.mem_of_getElem? hwk)
        refine ⟨_, rfl, _, rfl, _, _, rfl, rfl, _, rfl, _, _, rfl, rfl, p3, _, _, _, rfl, rfl, .inl (.inl hp7), by rw [eix]; exact atI_nat (rowZ_get _ hix), ?_⟩
        refine ⟨_, rfl, _, rfl, _, _, rfl, rfl, .inr ⟨by omega, by omega⟩, _, _, rfl, rfl, _, rfl, _, _, rfl, rfl, hN, ?_⟩
        refine ⟨_, rfl, _, rfl, _, _, rfl, rfl, _, rfl, _, _, rfl, rfl, p3, _, _, top - 1 - k, rfl, rfl, hp7, ?_, ?_⟩
        · rw [eix]
          unfold ixN
          rw [if_pos (by omega), if_pos (by rw [rowZ_len]; omega)]
          rfl
        · refine ⟨_, _, rfl, same_over np3H (s6.trans sT), ?_⟩
          rw [upd_same]
          dsimp only
          rw [rowZ_set (g := updW N ws f top (k + 1)) hix (by rw [updW_step hk' htop, if_pos rfl, ewk]) fun i hi => by rw [updW_step hk' htop, if_neg hi]]
      · rintro σ H6 ⟨v7, v8, rfl, s6, hp6⟩
        rw [List.length_map] at hp6
        exact ⟨_, _, _, _, rfl, s6, hp6⟩
    · rintro σ H5 ⟨v5, v6, v7, v8, rfl, s5, hp5⟩
      refine ⟨_, rfl, _, rfl, _, rfl, p3, _, rfl, .inl (.inl hp5), fun p np => ?_⟩
      refine q _ p (s5.trans (same_upd np)) (s5.free np) ?_
      rw [upd_same, cut_take, rowZ_take hLw]
      rfl
end
end My

namespace My
open PySem PySem.Spec PyProof.Rows L2 Pre
/-! ### rows moved by a number of places: plain -/
/-- powers that tell, of every row that follows a rule, its number n places on -/
def Mv (N : Int) (ws : List Int) (f : Nat → Int) (n : Nat) : Prop := ∀ r : Nat → Int, Fol N ws r → ∀ i, N ∣ (sumN ws.length fun p => f p * r (i + p)) - r (i + n)
theorem mv_red {N : Int} {ws q : List Int} {n : Nat} (hN : 0 < N) (h : ∀ r : Nat → Int, Fol N ws r → ∀ i, N ∣ (sumN q.length fun p => q.getD p 0 * r (i + p)) - r (i + n)) : Mv N ws (redP N ws q) n := fun r hr i => by
  have h1 := red_sum hN hr q i
  have h2 := h r hr i
  have := Int.dvd_add h1 h2
  rwa [show ∀ a b c : Int, a - b + (b - c) = a - c from fun a b c => by omega] at this
theorem mv_one {N : Int} {ws : List Int} (hN : 0 < N) : Mv N ws (redP N ws [1]) 0 := mv_red hN fun r _ i => by
  have e : (sumN ([1] : List Int).length fun p => ([1] : List Int).getD p 0 * r (i + p)) = r (i + 0) := by simp [sumN]
  rw [e, Int.sub_self]
  exact Int.dvd_zero N
theorem mv_two {N : Int} {ws : List Int} (hN : 0 < N) : Mv N ws (redP N ws [0, 1]) 1 := mv_red hN fun r _ i => by
  have e : (sumN ([0, 1] : List Int).length fun p => ([0, 1] : List Int).getD p 0 * r (i + p)) = r (i + 1) := by simp [sumN]
  rw [e, Int.sub_self]
  exact Int.dvd_zero N
theorem mv_nil {N : Int} {f : Nat → Int} {n : Nat} : Mv N [] f n := fun r hr i => by
  have h := hr (i + n)
  have e1 : (sumN ([] : List Int).length fun b => ([] : List Int).getD b 0 * r (i + n + ([] : List Int).length - 1 - b)) = 0 := rfl
  have e2 : (sumN ([] : List Int).length fun p => f p * r (i + p)) = 0 := rfl
  rw [e1, Int.sub_zero] at h
  rw [e2, Int.zero_sub]
  exact Int.dvd_neg.mpr h
/-- the product of two -/
def mulL (A B : List Int) : List Int := (List.range (A.length + B.length - 1)).map (prodF A B)
theorem mulL_len (A B : List Int) : (mulL A B).length = A.length + B.length - 1 := by unfold mulL; rw [List.length_map, List.length_range]
theorem mulL_get {A B : List Int} {k : Nat} (h : k < A.length + B.length - 1) : (mulL A B).getD k 0 = prodF A B k := by
  unfold mulL
  rw [List.getD_eq_getElem?_getD, List.getElem?_map, List.getElem?_range h]
  rfl
theorem row_getD {m i : Nat} (h : i < m) (f : Nat → Int) : (((List.range m).map f).getD i 0) = f i := by
  rw [List.getD_eq_getElem?_getD, List.getElem?_map, List.getElem?_range h]
  rfl
theorem mv_mul {N : Int} {ws : List Int} {f g : Nat → Int} {n m : Nat} (hN : 0 < N) (hf : Mv N ws f n) (hg : Mv N ws g m) : Mv N ws (redP N ws (mulL ((List.range ws.length).map f) ((List.range ws.length).map g))) (n + m) := by
  by_cases h0 : ws.length = 0
  · obtain rfl := List.length_eq_zero_iff.mp h0
    exact mv_nil
  refine mv_red hN fun r hr i => ?_
  have lf : ((List.range ws.length).map f).length = ws.length := by rw [List.length_map, List.length_range]
  have lg : ((List.range ws.length).map g).length = ws.length := by rw [List.length_map, List.length_range]
  rw [mulL_len, sumN_congr (g := fun k => prodF ((List.range ws.length).map f) ((List.range ws.length).map g) k * r (i + k)) fun k hk => by rw [mulL_get hk], prodF_sum _ _ (by omega), lf, lg]
  have e : (sumN ws.length fun t => ((List.range ws.length).map g).getD t 0 * sumN ws.length fun s => ((List.range ws.length).map f).getD s 0 * r (i + t + s)) = sumN ws.length fun t => g t * sumN ws.length fun s => f s * r (i + t + s) := sumN_congr fun t ht => by
    rw [row_getD ht, sumN_congr (g := fun s => f s * r (i + t + s)) fun s hs => by rw [row_getD hs]]
  rw [e]
  have h1 : N ∣ (sumN ws.length fun t => g t * sumN ws.length fun s => f s * r (i + t + s)) - sumN ws.length fun t => g t * r (i + n + t) := by
    have e2 : (sumN ws.length fun t => g t * sumN ws.length fun s => f s * r (i + t + s)) - (sumN ws.length fun t => g t * r (i + n + t)) = sumN ws.length fun t => g t * ((sumN ws.length fun s => f s * r (i + t + s)) - r (i + t + n)) := by
      have := sumN_add ws.length (fun t => g t * ((sumN ws.length fun s => f s * r (i + t + s)) - r (i + t + n))) (fun t => g t * r (i + n + t))
      rw [sumN_congr (g := fun t => g t * sumN ws.length fun s => f s * r (i + t + s)) fun t _ => by rw [show i + t + n = i + n + t by omega, ← Int.mul_add, Int.sub_add_cancel]] at this
      omega
    rw [e2]
    exact sumN_dvd fun t _ => Int.dvd_mul_of_dvd_right (hf r hr (i + t))
  have h2 := hg r hr (i + n)
  have := Int.dvd_add h1 h2
  rw [show ∀ a b c : Int, a - b + (b - c) = a - c from fun a b c => by omega] at this
  rwa [Nat.add_assoc] at this
end My

namespace My
open PySem PySem.Spec PyProof.Rows L2 Pre
/-! ### rows gone on: plain -/
theorem sum_range (n : Nat) (f : Nat → Int) : ((List.range n).map f).sum = sumN n f := by
  induction n with
  | zero => rfl
  | succ n ih => rw [List.range_succ, List.map_append, List.sum_append, ih, sumN]; simp
/-- the next one -/
def nxtR (h : Int) (ws l : List Int) : Int := (sumN ws.length (fun b => ws.getD b 0 * l.getD (l.length - 1 - b) 0) + h) % (2 * h) - h
/-- a row gone on -/
def goL (h : Int) (ws fs : List Int) : Nat → List Int
  | 0 => fs
  | k + 1 => goL h ws fs k ++ [nxtR h ws (goL h ws fs k)]
theorem goL_len (h : Int) (ws fs : List Int) : ∀ k, (goL h ws fs k).length = fs.length + k
  | 0 => rfl
  | k + 1 => by rw [goL, List.length_append, goL_len h ws fs k]; rfl
def goR (h : Int) (ws fs : List Int) (i : Nat) : Int := (goL h ws fs (i + 1)).getD i 0
theorem goL_at {h : Int} {ws fs : List Int} {i : Nat} : ∀ {k : Nat}, i < fs.length + k → (goL h ws fs k).getD i 0 = goR h ws fs i := by
  have step : ∀ k i, i < fs.length + k → (goL h ws fs (k + 1)).getD i 0 = (goL h ws fs k).getD i 0 := fun k i hi => by
    rw [goL, List.getD_eq_getElem?_getD, List.getElem?_append_left (by rw [goL_len]; exact hi), ← List.getD_eq_getElem?_getD]
  have up : ∀ d k i, i < fs.length + k → (goL h ws fs (k + d)).getD i 0 = (goL h ws fs k).getD i 0 := fun d => by
    induction d with
    | zero => intro k i _; rfl
    | succ d ih => intro k i hi; rw [← Nat.add_assoc, step _ _ (by omega), ih k i hi]
  intro k hi
  unfold goR
  by_cases c : k ≤ i + 1
  · obtain ⟨d, e⟩ := Nat.le.dest c
    rw [← e]
    exact (up d k i hi).symm
  · obtain ⟨d, e⟩ := Nat.le.dest (show i + 1 ≤ k by omega)
    rw [← e]
    exact up d (i + 1) i (by omega)
theorem goR_first {h : Int} {ws fs : List Int} {i : Nat} (hi : i < fs.length) : goR h ws fs i = fs.getD i 0 := (goL_at (k := 0) (by omega)).symm
theorem goR_fol {h : Int} (hh : 0 < h) {ws fs : List Int} (e : fs.length = ws.length) : Fol (2 * h) ws (goR h ws fs) := by
  intro i
  have e1 : goR h ws fs (i + ws.length) = nxtR h ws (goL h ws fs i) := by
    rw [← goL_at (k := i + 1) (by omega), goL, List.getD_eq_getElem?_getD, List.getElem?_append_right (by rw [goL_len]; omega), goL_len, show i + ws.length - (fs.length + i) = 0 by omega]
    rfl
  have e2 : sumN ws.length (fun b => ws.getD b 0 * (goL h ws fs i).getD ((goL h ws fs i).length - 1 - b) 0) = sumN ws.length fun b => ws.getD b 0 * goR h ws fs (i + ws.length - 1 - b) := sumN_congr fun b hb => by
    rw [goL_len, goL_at (by omega), show fs.length + i - 1 - b = i + ws.length - 1 - b by omega]
  rw [e1, ← e2]
  unfold nxtR
  generalize sumN ws.length (fun b => ws.getD b 0 * (goL h ws fs i).getD ((goL h ws fs i).length - 1 - b) 0) = S
  have := Int.dvd_self_sub_emod (x := S + h) (m := 2 * h)
  have h2 := Int.dvd_neg.mpr this
  rw [show -(S + h - (S + h) % (2 * h)) = (S + h) % (2 * h) - h - S by omega] at h2
  exact h2
theorem two_half {d : Nat} (h : 1 ≤ d) : 2 * (2 ^ (d - 1) : Int) = 2 ^ d := by
  obtain ⟨e, rfl⟩ : ∃ e, d = e + 1 := ⟨d - 1, by omega⟩
  rw [Nat.add_sub_cancel, Int.pow_succ, Int.mul_comm]
theorem half_pos (d : Nat) : (0 : Int) < 2 ^ (d - 1) := Int.pow_pos (by decide)
theorem goR_range {h : Int} (hh : 0 < h) {ws fs : List Int} (hf : ∀ x ∈ fs, -h ≤ x ∧ x < h) (i : Nat) : -h ≤ goR h ws fs i ∧ goR h ws fs i < h := by
  by_cases c : i < fs.length
  · rw [goR_first c, List.getD_eq_getElem?_getD, List.getElem?_eq_getElem c]
    exact hf _ (List.getElem_mem c)
  · obtain ⟨k, rfl⟩ := Nat.le.dest (show fs.length ≤ i by omega)
    rw [← goL_at (k := k + 1) (by omega), goL, List.getD_eq_getElem?_getD, List.getElem?_append_right (by rw [goL_len]; omega), goL_len, show fs.length + k - (fs.length + k) = 0 by omega]
    show -h ≤ nxtR h ws (goL h ws fs k) ∧ nxtR h ws (goL h ws fs k) < h
    unfold nxtR
    have h1 := Int.emod_nonneg ((sumN ws.length fun b => ws.getD b 0 * (goL h ws fs k).getD ((goL h ws fs k).length - 1 - b) 0) + h) (show 2 * h ≠ 0 by omega)
    have h2 := Int.emod_lt_of_pos ((sumN ws.length fun b => ws.getD b 0 * (goL h ws fs k).getD ((goL h ws fs k).length - 1 - b) 0) + h) (show 0 < 2 * h by omega)
    omega
/-- wrapped, what tells a number within a half is that number -/
theorem wrap_eq {h x y : Int} (hy : -h ≤ y ∧ y < h) (hd : 2 * h ∣ x - y) : (x + h) % (2 * h) - h = y := by
  obtain ⟨c, hc⟩ := hd
  have e : x + h = (y + h) + 2 * h * c := by omega
  rw [e, Int.add_mul_emod_self_left, Int.emod_eq_of_lt (by omega) (by omega)]
  omega
end My

namespace My
/-! ### rows come round: operators on sequences -/
/-- linear over the whole numbers, and alike at all places -/
structure Lin (F : (Nat → Int) → Nat → Int) : Prop where
  add : ∀ u v i, F (fun j => u j + v j) i = F u i + F v i
  mul : ∀ c u i, F (fun j => c * u j) i = c * F u i
  sh : ∀ u i, F (fun j => u (j + 1)) i = F u (i + 1)
theorem Lin.shk {F : (Nat → Int) → Nat → Int} (h : Lin F) (u : Nat → Int) (k i : Nat) : F (fun j => u (j + k)) i = F u (i + k) := by
  induction k generalizing i with
  | zero => rfl
  | succ k ih =>
    have e : (fun j => u (j + (k + 1))) = fun j => (fun t => u (t + k)) (j + 1) := by funext j; show u (j + (k + 1)) = u (j + 1 + k); congr 1; omega
    rw [e, h.sh (fun t => u (t + k)) i, ih]
    congr 1
    omega
theorem Lin.zero {F : (Nat → Int) → Nat → Int} (h : Lin F) (i : Nat) : F (fun _ => 0) i = 0 := by
  have := h.mul 0 (fun _ => 0) i
  simpa using this
theorem Lin.dvd {F : (Nat → Int) → Nat → Int} (h : Lin F) {N : Int} {u : Nat → Int} (d : ∀ j, N ∣ u j) (i : Nat) : N ∣ F u i := by
  have e : u = fun j => N * (u j / N) := by funext j; exact (Int.mul_ediv_cancel' (d j)).symm
  rw [e, h.mul]
  exact Int.dvd_mul_right _ _
theorem Lin.sum {F : (Nat → Int) → Nat → Int} (h : Lin F) (n : Nat) (c : Nat → Int) (u : Nat → Int) (e : Nat → Nat) (i : Nat) : F (fun j => sumN n fun b => c b * u (j + e b)) i = sumN n fun b => c b * F u (i + e b) := by
  induction n with
  | zero => exact h.zero i
  | succ n ih =>
    show F (fun j => (sumN n fun b => c b * u (j + e b)) + c n * u (j + e n)) i = _
    rw [h.add (fun j => sumN n fun b => c b * u (j + e b)) (fun j => c n * u (j + e n)) i, ih, h.mul (c n) (fun j => u (j + e n)) i, h.shk u (e n) i]
    rfl
/-- a list of powers at work -/
def actL (A : List Int) (u : Nat → Int) (i : Nat) : Int := sumN A.length fun p => A.getD p 0 * u (i + p)
theorem Lin.act {F : (Nat → Int) → Nat → Int} (h : Lin F) (A : List Int) (u : Nat → Int) (i : Nat) : F (actL A u) i = actL A (F u) i := h.sum A.length (fun p => A.getD p 0) u (fun p => p) i
theorem Lin.fol {F : (Nat → Int) → Nat → Int} (h : Lin F) {N : Int} {w : List Int} {r : Nat → Int} (hr : Fol N w r) : Fol N w (F r) := by
  rw [fol_asP] at hr ⊢
  intro i
  have := h.dvd (u := actL (asP w) r) hr i
  rw [h.act] at this
  exact this
theorem lin_act (A : List Int) : Lin (actL A) where
  add u v i := by
    unfold actL
    rw [← sumN_add]
    exact sumN_congr fun p _ => Int.mul_add _ _ _
  mul c u i := by
    unfold actL
    rw [← sumN_mul]
    refine sumN_congr fun p _ => ?_
    rw [← Int.mul_assoc, ← Int.mul_assoc, Int.mul_comm (A.getD p 0)]
  sh u i := by
    unfold actL
    exact sumN_congr fun p _ => by show A.getD p 0 * u (i + p + 1) = A.getD p 0 * u (i + 1 + p); rw [show i + p + 1 = i + 1 + p by omega]
theorem lin_comp {F G : (Nat → Int) → Nat → Int} (hF : Lin F) (hG : Lin G) : Lin fun u => F (G u) where
  add u v i := by
    have e : G (fun j => u j + v j) = fun j => G u j + G v j := funext fun j => hG.add u v j
    rw [e, hF.add]
  mul c u i := by
    have e : G (fun j => c * u j) = fun j => c * G u j := funext fun j => hG.mul c u j
    rw [e, hF.mul]
  sh u i := by
    have e : G (fun j => u (j + 1)) = fun j => G u (j + 1) := funext fun j => hG.sh u j
    rw [e, hF.sh]
theorem lin_add {F G : (Nat → Int) → Nat → Int} (hF : Lin F) (hG : Lin G) : Lin fun u i => F u i + G u i where
  add u v i := by rw [hF.add, hG.add]; omega
  mul c u i := by rw [hF.mul, hG.mul, Int.mul_add]
  sh u i := by rw [hF.sh, hG.sh]
theorem lin_mul (c : Int) {F : (Nat → Int) → Nat → Int} (hF : Lin F) : Lin fun u i => c * F u i where
  add u v i := by rw [hF.add, Int.mul_add]
  mul e u i := by rw [hF.mul, ← Int.mul_assoc, ← Int.mul_assoc, Int.mul_comm c]
  sh u i := by rw [hF.sh]
theorem lin_shift (k : Nat) {F : (Nat → Int) → Nat → Int} (hF : Lin F) : Lin fun u i => F u (i + k) where
  add u v i := hF.add _ _ _
  mul c u i := hF.mul _ _ _
  sh u i := by rw [hF.sh, show i + k + 1 = i + 1 + k by omega]
theorem lin_zero : Lin fun _ _ => 0 where
  add _ _ _ := rfl
  mul c _ _ := (Int.mul_zero c).symm
  sh _ _ := rfl
/-- the turn of a rule over two: what goes T places on is what stays, but for the rule's own and for doubles -/
def Turn (q : List Int) (T : Nat) : Prop := ∃ C E : (Nat → Int) → Nat → Int, Lin C ∧ Lin E ∧ ∀ r i, r (i + T) - r i = C (actL (asP q) r) i + 2 * E r i
/-- a rule is its odd part, k places on, but for doubles -/
def Odd (ws q : List Int) (k : Nat) : Prop := ∃ R : (Nat → Int) → Nat → Int, Lin R ∧ ∀ r i, actL (asP ws) r i = actL (asP q) r (i + k) + 2 * R r i
theorem turn_one {N : Int} {ws q : List Int} {k T : Nat} (ho : Odd ws q k) (ht : Turn q T) : ∃ G, Lin G ∧ ∀ r, Fol N ws r → ∀ i, N ∣ r (i + k + T) - r (i + k) - 2 * G r i := by
  obtain ⟨R, hR, eR⟩ := ho
  obtain ⟨C, E, hC, hE, eT⟩ := ht
  refine ⟨fun u i => E u (i + k) + (-1) * C (R u) i, lin_add (lin_shift k hE) (lin_mul (-1) (lin_comp hC hR)), fun r hr i => ?_⟩
  rw [eT r (i + k), ← hC.shk (actL (asP q) r) k i]
  have e : (fun j => actL (asP q) r (j + k)) = fun j => actL (asP ws) r j + (-2) * R r j := funext fun j => by rw [eR]; omega
  rw [e, hC.add (actL (asP ws) r) (fun j => (-2) * R r j) i, hC.mul (-2) (R r) i]
  have h := hC.dvd (N := N) (u := actL (asP ws) r) (fol_asP.mp hr) i
  have e2 : C (actL (asP ws) r) i + -2 * C (R r) i + 2 * E r (i + k) - 2 * (E r (i + k) + -1 * C (R r) i) = C (actL (asP ws) r) i := by omega
  rw [e2]
  exact h
theorem turn_many {N : Int} {ws q : List Int} {k T : Nat} (ho : Odd ws q k) (ht : Turn q T) (n : Nat) : ∃ G, Lin G ∧ ∀ r, Fol N ws r → ∀ i, N ∣ r (i + k + T * n) - r (i + k) - 2 * G r i := by
  induction n with
  | zero => exact ⟨_, lin_zero, fun r _ i => by rw [Nat.mul_zero, Nat.add_zero, Int.sub_self]; exact Int.dvd_zero _⟩
  | succ n ih =>
    obtain ⟨G, hG, h1⟩ := ih
    obtain ⟨G1, hG1, h2⟩ := turn_one (N := N) ho ht
    refine ⟨fun u i => G1 u (i + T * n) + G u i, lin_add (lin_shift _ hG1) hG, fun r hr i => ?_⟩
    have a := h1 r hr i
    have b := h2 r hr (i + T * n)
    have := Int.dvd_add a b
    rw [show i + T * n + k + T = i + k + T * (n + 1) by rw [Nat.mul_succ]; omega, show i + T * n + k = i + k + T * n by omega] at this
    rw [show r (i + k + T * n) - r (i + k) - 2 * G r i + (r (i + k + T * (n + 1)) - r (i + k + T * n) - 2 * G1 r (i + T * n)) = r (i + k + T * (n + 1)) - r (i + k) - 2 * (G1 r (i + T * n) + G r i) by omega] at this
    exact this
/-- after j parts of the tail, T doubled j - 1 times comes round but for 2 ^ j -/
theorem turn_pow {N : Int} {ws q : List Int} {k T : Nat} (ho : Odd ws q k) (ht : Turn q T) (j : Nat) : ∃ G, Lin G ∧ ∀ r, Fol N ws r → ∀ i, N ∣ r (i + k * (j + 1) + T * 2 ^ j) - r (i + k * (j + 1)) - 2 ^ (j + 1) * G r i := by
  induction j with
  | zero =>
    obtain ⟨G, hG, h⟩ := turn_one (N := N) ho ht
    exact ⟨G, hG, fun r hr i => by simpa using h r hr i⟩
  | succ j ih =>
    obtain ⟨G, hG, h1⟩ := ih
    obtain ⟨G2, hG2, h2⟩ := turn_many (N := N) ho ht (2 ^ j)
    refine ⟨fun u i => G2 (G u) i + G u (i + k), lin_add (lin_comp hG2 hG) (lin_shift k hG), fun r hr i => ?_⟩
    have a := h1 r hr (i + k)
    have b := h1 r hr (i + k + T * 2 ^ j)
    have c : N ∣ (2 : Int) ^ (j + 1) * _ := Int.dvd_mul_of_dvd_right (h2 (G r) (hG.fol hr) i)
    have e1 : i + k + k * (j + 1) = i + k * (j + 1 + 1) := by rw [Nat.mul_succ k (j + 1)]; omega
    have e2 : i + k + T * 2 ^ j + k * (j + 1) = i + k * (j + 1 + 1) + T * 2 ^ j := by rw [Nat.mul_succ k (j + 1)]; omega
    rw [e1] at a
    rw [e2, show i + k * (j + 1 + 1) + T * 2 ^ j + T * 2 ^ j = i + k * (j + 1 + 1) + T * 2 ^ (j + 1) by rw [Nat.pow_succ, Nat.mul_comm (2 ^ j) 2, Nat.mul_left_comm T 2, Nat.two_mul]; omega] at b
    generalize i + k * (j + 1 + 1) = p at *
    have := Int.dvd_add (Int.dvd_add a b) c
    rw [Int.pow_succ (2 : Int) (j + 1)]
    generalize (2 : Int) ^ (j + 1) = z at *
    refine Eq.mp (congrArg (N ∣ ·) ?_) this
    rw [Int.mul_sub, Int.mul_sub, Int.mul_add, Int.mul_assoc z 2 (G2 (G r) i), Int.mul_assoc z 2 (G r (i + k))]
    rw [show z * (2 * G r (i + k)) = z * G r (i + k) + z * G r (i + k) by rw [← Int.mul_add, ← Int.two_mul]]
    omega
theorem comes_round {d : Nat} (d1 : 1 ≤ d) {ws q : List Int} {k T : Nat} (ho : Odd ws q k) (ht : Turn q T) {r : Nat → Int} (hr : Fol (2 ^ d) ws r) (i : Nat) : (2 ^ d : Int) ∣ r (i + k * d + T * 2 ^ (d - 1)) - r (i + k * d) := by
  obtain ⟨G, _, h⟩ := turn_pow (N := 2 ^ d) ho ht (d - 1)
  have := h r hr i
  rw [show d - 1 + 1 = d by omega] at this
  have e := Int.dvd_add this (Int.dvd_mul_right (2 ^ d) (G r i))
  rwa [Int.sub_add_cancel] at e
end My

namespace My
/-! ### the turn of a rule over two -/
/-- alike but for the rule's own and for doubles -/
def Alk (q : List Int) (F G : (Nat → Int) → Nat → Int) : Prop := ∃ C E : (Nat → Int) → Nat → Int, Lin C ∧ Lin E ∧ ∀ r i, F r i - G r i = C (actL (asP q) r) i + 2 * E r i
theorem Alk.refl {q : List Int} (F : (Nat → Int) → Nat → Int) : Alk q F F := ⟨_, _, lin_zero, lin_zero, fun r i => by show F r i - F r i = 0 + 2 * 0; omega⟩
theorem Alk.trans {q : List Int} {F G K : (Nat → Int) → Nat → Int} (a : Alk q F G) (b : Alk q G K) : Alk q F K := by
  obtain ⟨C, E, hC, hE, h⟩ := a
  obtain ⟨C2, E2, hC2, hE2, h2⟩ := b
  exact ⟨_, _, lin_add hC hC2, lin_add hE hE2, fun r i => by have := h r i; have := h2 r i; show _ = C _ i + C2 _ i + 2 * (E r i + E2 r i); omega⟩
theorem Alk.symm {q : List Int} {F G : (Nat → Int) → Nat → Int} (a : Alk q F G) : Alk q G F := by
  obtain ⟨C, E, hC, hE, h⟩ := a
  exact ⟨_, _, lin_mul (-1) hC, lin_mul (-1) hE, fun r i => by have := h r i; show _ = -1 * C _ i + 2 * (-1 * E r i); omega⟩
theorem Alk.shift {q : List Int} {F G : (Nat → Int) → Nat → Int} (a : Alk q F G) (k : Nat) : Alk q (fun r i => F r (i + k)) (fun r i => G r (i + k)) := by
  obtain ⟨C, E, hC, hE, h⟩ := a
  exact ⟨_, _, lin_shift k hC, lin_shift k hE, fun r i => h r (i + k)⟩
theorem Alk.turn {q : List Int} {T : Nat} (a : Alk q (fun r i => r (i + T)) fun r i => r i) : Turn q T := a
/-- powers at work -/
def actF (n : Nat) (f : Nat → Int) (r : Nat → Int) (i : Nat) : Int := sumN n fun p => f p * r (i + p)
theorem lin_actF (n : Nat) (f : Nat → Int) : Lin (actF n f) where
  add u v i := by
    unfold actF
    rw [← sumN_add]
    exact sumN_congr fun p _ => Int.mul_add _ _ _
  mul c u i := by
    unfold actF
    rw [← sumN_mul]
    refine sumN_congr fun p _ => ?_
    rw [← Int.mul_assoc, ← Int.mul_assoc, Int.mul_comm (f p)]
  sh u i := by
    unfold actF
    exact sumN_congr fun p _ => by show f p * u (i + p + 1) = f p * u (i + 1 + p); rw [show i + p + 1 = i + 1 + p by omega]
theorem actF_two {n : Nat} {f g h : Nat → Int} (e : ∀ p, p < n → f p = g p + 2 * h p) (r : Nat → Int) (i : Nat) : actF n f r i = actF n g r i + 2 * actF n h r i := by
  unfold actF
  rw [← sumN_mul, ← sumN_add]
  exact sumN_congr fun p hp => by rw [e p hp, Int.add_mul, Int.mul_assoc]
/-- one power led down -/
theorem upd_alk {q : List Int} {f : Nat → Int} {top : Nat} (ht : q.length ≤ top) : Alk q (actF (top + 1) f) (actF top (updW 2 q f top q.length)) := by
  let c : Nat → Int := fun p => f p + if top - 1 - p < q.length then f top * q.getD (top - 1 - p) 0 else 0
  let g : Nat → Int := fun p => if top - 1 - p < q.length then c p / 2 else 0
  have h1 : ∀ r i, actF top c r i = actF top (updW 2 q f top q.length) r i + 2 * actF top g r i := actF_two fun p hp => by
    show (f p + if top - 1 - p < q.length then f top * q.getD (top - 1 - p) 0 else 0) = updW 2 q f top q.length p + 2 * (if top - 1 - p < q.length then (f p + if top - 1 - p < q.length then f top * q.getD (top - 1 - p) 0 else 0) / 2 else 0)
    unfold updW
    by_cases k : top - 1 - p < q.length
    · rw [if_pos k, if_pos ⟨hp, k⟩, if_pos k]
      omega
    · rw [if_neg k, if_neg fun z => k z.2, if_neg k]
      omega
  have h2 : ∀ r i, actF top c r i = actF top f r i + f top * sumN q.length fun b => q.getD b 0 * r (i + top - 1 - b) := fun r i => by
    show sumN top (fun p => (f p + if top - 1 - p < q.length then f top * q.getD (top - 1 - p) 0 else 0) * r (i + p)) = sumN top (fun p => f p * r (i + p)) + f top * sumN q.length fun b => q.getD b 0 * r (i + top - 1 - b)
    have e1 : (fun p => (f p + if top - 1 - p < q.length then f top * q.getD (top - 1 - p) 0 else 0) * r (i + p)) = fun p => f p * r (i + p) + (if top - 1 - p < q.length then f top * q.getD (top - 1 - p) 0 else 0) * r (i + p) := by
      funext p
      rw [Int.add_mul]
    rw [e1, sumN_add]
    congr 1
    rw [← sumN_mul]
    have e2 : sumN top (fun p => (if top - 1 - p < q.length then f top * q.getD (top - 1 - p) 0 else 0) * r (i + p)) = sumN top fun p => (fun b => (if b < q.length then f top * q.getD b 0 else 0) * r (i + top - 1 - b)) (top - 1 - p) := by
      refine sumN_congr fun p hp => ?_
      dsimp only
      rw [show i + top - 1 - (top - 1 - p) = i + p by omega]
    refine e2.trans ((sumN_rev top fun b => (if b < q.length then f top * q.getD b 0 else 0) * r (i + top - 1 - b)).trans ?_)
    rw [sumN_cut ht fun b h1 h2 => by rw [if_neg (by omega), Int.zero_mul]]
    refine sumN_congr fun b hb => ?_
    rw [if_pos hb, Int.mul_assoc]
  refine ⟨_, _, lin_mul (f top) (lin_shift (top - q.length) (lin_actF 1 fun _ => 1)), lin_actF top g, fun r i => ?_⟩
  have h3 := asP_sum q r (i + (top - q.length))
  have e3 : actF 1 (fun _ => 1) (actL (asP q) r) (i + (top - q.length)) = actL (asP q) r (i + (top - q.length)) := by
    unfold actF
    simp [sumN]
  show actF (top + 1) f r i - _ = f top * actF 1 (fun _ => 1) (actL (asP q) r) (i + (top - q.length)) + 2 * actF top g r i
  rw [e3]
  unfold actL
  rw [h3, show i + (top - q.length) + q.length = i + top by omega]
  have e4 : actF (top + 1) f r i = actF top f r i + f top * r (i + top) := rfl
  have a := h1 r i
  have b := h2 r i
  rw [e4, Int.mul_sub]
  omega
theorem led_alk {q : List Int} {f : Nat → Int} {L : Nat} : ∀ t, t + q.length ≤ L → Alk q (actF L f) (actF (L - t) (ledN 2 q f L t))
  | 0, _ => Alk.refl _
  | t + 1, h => by
    have ih := led_alk (q := q) (f := f) (L := L) t (by omega)
    have h1 := upd_alk (q := q) (f := ledN 2 q f L t) (top := L - 1 - t) (by omega)
    rw [show L - 1 - t + 1 = L - t by omega] at h1
    rw [show L - (t + 1) = L - 1 - t by omega]
    exact ih.trans h1
theorem Alk.of_eq {q : List Int} {F G : (Nat → Int) → Nat → Int} (h : ∀ r i, F r i = G r i) : Alk q F G := ⟨_, _, lin_zero, lin_zero, fun r i => by show F r i - G r i = 0 + 2 * 0; rw [h]; omega⟩
theorem actF_congr {n : Nat} {f g : Nat → Int} (e : ∀ p, p < n → f p = g p) (r : Nat → Int) (i : Nat) : actF n f r i = actF n g r i := sumN_congr fun p hp => by rw [e p hp]
theorem red_alk (q A : List Int) : Alk q (actF A.length fun p => A.getD p 0) (actF q.length (redP 2 q A)) := by
  have h1 := led_alk (q := q) (f := iniP 2 A) (L := lenP q A) (lenP q A - q.length) (by unfold lenP; omega)
  rw [show lenP q A - (lenP q A - q.length) = q.length by unfold lenP; omega] at h1
  refine Alk.trans ?_ h1
  have h2 : Alk q (actF (lenP q A) fun p => A.getD p 0) (actF (lenP q A) (iniP 2 A)) := ⟨_, _, lin_zero, lin_actF (lenP q A) fun p => A.getD p 0 / 2, fun r i => by
    have := actF_two (n := lenP q A) (f := fun p => A.getD p 0) (g := iniP 2 A) (h := fun p => A.getD p 0 / 2) (fun p _ => by unfold iniP; omega) r i
    show _ = 0 + 2 * actF (lenP q A) (fun p => A.getD p 0 / 2) r i
    omega⟩
  refine Alk.trans (Alk.of_eq fun r i => ?_) h2
  exact (sumN_cut (n := lenP q A) (k := A.length) (f := fun p => A.getD p 0 * r (i + p)) (by unfold lenP; omega) fun p h1 _ => by rw [List.getD_eq_getElem?_getD, List.getElem?_eq_none h1]; exact Int.zero_mul _).symm
/-- the powers of the t-th place, over two -/
def pwL (q : List Int) : Nat → Nat → Int
  | 0 => redP 2 q [1]
  | t + 1 => redP 2 q (0 :: (List.range q.length).map (pwL q t))
theorem pw_alk (q : List Int) : ∀ t, Alk q (fun r i => r (i + t)) (actF q.length (pwL q t))
  | 0 => Alk.trans (Alk.of_eq fun r i => by show r i = sumN 1 fun p => ([1] : List Int).getD p 0 * r (i + p); simp [sumN]) (red_alk q [1])
  | t + 1 => by
    have h := (pw_alk q t).shift 1
    refine Alk.trans (Alk.of_eq fun r i => by show r (i + (t + 1)) = r (i + 1 + t); congr 1; omega) (h.trans (Alk.trans (Alk.of_eq fun r i => ?_) (red_alk q (0 :: (List.range q.length).map (pwL q t)))))
    show (sumN q.length fun p => pwL q t p * r (i + 1 + p)) = sumN (0 :: (List.range q.length).map (pwL q t)).length fun p => (0 :: (List.range q.length).map (pwL q t)).getD p 0 * r (i + p)
    rw [List.length_cons, List.length_map, List.length_range, sumN_front]
    show _ = (0 : Int) * r (i + 0) + _
    rw [Int.zero_mul, Int.zero_add]
    refine sumN_congr fun p hp => ?_
    rw [List.getD_cons_succ, List.getD_eq_getElem?_getD, List.getElem?_map, List.getElem?_range hp, show i + 1 + p = i + (p + 1) by omega]
    rfl
theorem turn_of {q : List Int} {T : Nat} (h : ∀ p, p < q.length → pwL q T p = pwL q 0 p) : Turn q T := ((pw_alk q T).trans ((Alk.of_eq fun r i => actF_congr h r i).trans (pw_alk q 0).symm)).turn
/-- the odd part of a rule -/
theorem odd_take {ws : List Int} {n : Nat} (hn : n ≤ ws.length) (he : ∀ b, n ≤ b → b < ws.length → ws.getD b 0 % 2 = 0) : Odd ws (ws.take n) (ws.length - n) := by
  have hl : (ws.take n).length = n := by rw [List.length_take]; omega
  refine ⟨fun r i => -1 * sumN (ws.length - n) fun b => ws.getD (n + b) 0 / 2 * r (i + (ws.length - n - 1 - b)), ?_, fun r i => ?_⟩
  · refine lin_mul (-1) (F := fun r i => sumN (ws.length - n) fun b => ws.getD (n + b) 0 / 2 * r (i + (ws.length - n - 1 - b))) ?_
    constructor
    · intro u v i
      rw [← sumN_add]
      exact sumN_congr fun p _ => Int.mul_add _ _ _
    · intro c u i
      rw [← sumN_mul]
      refine sumN_congr fun p _ => ?_
      rw [← Int.mul_assoc, ← Int.mul_assoc, Int.mul_comm c]
    · intro u i
      exact sumN_congr fun p _ => by show _ * u (i + (ws.length - n - 1 - p) + 1) = _ * u (i + 1 + (ws.length - n - 1 - p)); rw [show i + (ws.length - n - 1 - p) + 1 = i + 1 + (ws.length - n - 1 - p) by omega]
  · have h1 : actL (asP ws) r i = _ := asP_sum ws r i
    have h2 : actL (asP (ws.take n)) r (i + (ws.length - n)) = _ := asP_sum (ws.take n) r (i + (ws.length - n))
    rw [h1, h2, hl, show i + (ws.length - n) + n = i + ws.length by omega]
    have h3 := sumN_split n (ws.length - n) fun b => ws.getD b 0 * r (i + ws.length - 1 - b)
    rw [show n + (ws.length - n) = ws.length by omega] at h3
    rw [h3]
    have h4 : (sumN n fun b => (ws.take n).getD b 0 * r (i + ws.length - 1 - b)) = sumN n fun b => ws.getD b 0 * r (i + ws.length - 1 - b) := sumN_congr fun b hb => by
      rw [List.getD_eq_getElem?_getD, List.getElem?_take, if_pos hb, ← List.getD_eq_getElem?_getD]
    have h5 : (sumN (ws.length - n) fun b => ws.getD (n + b) 0 * r (i + ws.length - 1 - (n + b))) = 2 * sumN (ws.length - n) fun b => ws.getD (n + b) 0 / 2 * r (i + (ws.length - n - 1 - b)) := by
      rw [← sumN_mul]
      refine sumN_congr fun b hb => ?_
      have := he (n + b) (by omega) (by omega)
      rw [← Int.mul_assoc, show 2 * (ws.getD (n + b) 0 / 2) = ws.getD (n + b) 0 by omega, show i + ws.length - 1 - (n + b) = i + (ws.length - n - 1 - b) by omega]
    rw [h4, h5]
    dsimp only
    omega
end My

namespace My
open PySem PySem.Spec PyProof.Rows L2 Pre
/-! ### odd values: what is shown of them, odd items of lists -/
/-- what is shown of a thing -/
def Shw (K : PySem.W.Frag) (H : Hp) (x : V) (t : Str) : Prop := ∃ d, Dp K H x d ∧ d.showable = true ∧ SeqAt.shaped d = true ∧ d.shown.length ≤ sizeLine ∧ t = d.shown
theorem Shw.same {K : PySem.W.Frag} {H H' : Hp} {x : V} {t : Str} (s : Same H H') (h : Shw K H x t) : Shw K H' x t := by
  obtain ⟨d, hd, h⟩ := h
  exact ⟨d, Pre.dp_same s _ _ hd, h⟩
theorem Shw.repr {K : PySem.W.Frag} {H : Hp} {x : V} {t : Str} {Q : VK} (h : Shw K H x t) (q : Q (.str t) H) : rReprX K [x] H Q := by
  obtain ⟨d, hd, h1, h2, h3, rfl⟩ := h
  exact .inl ⟨x, d, rfl, hd, h1, h2, h3, q⟩
theorem pair_shaped {a t : Str} (ha : PyData.strOk a = true) (ht : PyData.strOk t = true) : SeqAt.shaped (.list [.str a, .str t]) = true := by
  simp [SeqAt.shaped, PyData.canLay0, PyData.canLayAll0, PyData.depth, PyData.depthAll, ha, ht]
theorem pair_eqv (a t : Str) : PyData.eqv (.list [.str a, .str t]) (.list [.str a, .str t]) = true := by
  simp [PyData.eqv, PyData.eqvAll]
theorem shw_ok {K : PySem.W.Frag} {H : Hp} {x : V} {d : PyData} (hd : Dp K H x d) (h : (d.showable && SeqAt.shaped d && decide (d.shown.length ≤ sizeLine) && PyData.strOk d.shown) = true) : ∃ t, Shw K H x t ∧ PyData.strOk t = true := by
  rw [Bool.and_eq_true, Bool.and_eq_true, Bool.and_eq_true] at h
  exact ⟨_, ⟨d, hd, h.1.1.1, h.1.1.2, of_decide_eq_true h.1.2, rfl⟩, h.2⟩
theorem item_bl {K : PySem.W.Frag} {H : Hp} (b : Bool) : Item K H (.bl b) := .inr ⟨rfl, .inl ⟨b, rfl⟩, .bool b, .bl b, rfl, by rw [PyData.depth]; decide⟩
theorem item_non {K : PySem.W.Frag} {H : Hp} : Item K H .non := .inr ⟨rfl, .inr ⟨_, .base .non, by decide +kernel⟩, .none, .non, rfl, by rw [PyData.depth]; decide⟩
theorem item_str {K : PySem.W.Frag} {H : Hp} (s : Str) (h : PyData.strOk s = true) : Item K H (.str s) := .inr ⟨rfl, .inr ⟨_, .base (.str _), by decide +kernel⟩, .str s, .str s, h, by rw [PyData.depth]; decide⟩
theorem item_lst {K : PySem.W.Frag} {H : Hp} {p : Addr} {ns : List Int} (h : H p = some (.lst (ns.map V.int))) : Item K H (.ref p) := .inr ⟨rfl, .inr ⟨_, .base (.lst h), by decide +kernel⟩, .list (ns.map PyData.int), dp_row (.inl (.inl h)), by rw [PyData.canLay0]; exact lay_ints ns, by rw [PyData.depth, depth_ints]; omega⟩
theorem items1 {K : PySem.W.Frag} {H : Hp} {x : V} (h : Item K H x) : ∀ y ∈ [x], Item K H y := fun y hy => by rw [List.mem_singleton.mp hy]; exact h
theorem items2 {K : PySem.W.Frag} {H : Hp} {x z : V} (h : Item K H x) (k : Item K H z) : ∀ y ∈ [x, z], Item K H y := fun y hy => by
  rcases List.mem_cons.mp hy with e | e
  · rw [e]; exact h
  · rw [List.mem_singleton.mp e]; exact k
/-- two ways to a value, one way on -/
theorem join_te {c : Bool} {te1 te2 : TE} {σ : L2.St} {H : Hp} {R : VK} (Pv : V → Hp → Prop) (h1 : c = true → ∀ R' : VK, (∀ v H', Pv v H' → R' v H') → te1 σ H R') (h2 : c = false → ∀ R' : VK, (∀ v H', Pv v H' → R' v H') → te2 σ H R') (cont : ∀ v H', Pv v H' → R v H') : if c = true then te1 σ H R else te2 σ H R := by
  cases c with
  | true => exact h1 rfl R cont
  | false => exact h2 rfl R cont
end My

namespace My
open PySem PySem.Spec PyProof.Rows L2 Pre
/-! ### rows of rules, in a program -/
local macro_rules | `(tactic| walk_at "go") => `(tactic| repeat (first | (with_reducible first | refine iteT ?_ | refine iteF ?_ | refine iteNtt ?_ | refine iteNff ?_ | refine iteET (by omega) ?_ | refine iteEF (by omega) ?_ | refine iteENT (by omega) ?_ | refine iteENF (by omega) ?_ | refine iteDT (by omega) ?_ | refine iteDF (by omega) ?_ | refine iteNT (by omega) ?_ | refine iteNF (by omega) ?_) | refine ⟨_, rfl, ?_⟩ | refine ⟨_, _, rfl, rfl, ?_⟩ | refine ⟨_, _, rfl, ?_⟩ | refine ⟨rfl, ?_⟩ | refine .inl ⟨_, rfl, ?_⟩ | refine .inr ⟨_, rfl, ?_⟩))
local macro_rules | `(tactic| walk_at "b") => `(tactic| try dsimp (config := { proj := false, iota := false, eta := false, zeta := false }) only)
section
variable {P : Program} {w : World} {K : PySem.W.Frag} {mg : Str → Option Value} {base : Heap} [pf : Sup.PF P fileS]
def sp_multiplied (K : PySem.W.Frag) : Sp := fun vs H Q _ => ∃ (a b : Addr) (As Bs : List Int), vs = [.ref a, .ref b] ∧ H a = some (.lst (As.map V.int)) ∧ H b = some (.lst (Bs.map V.int)) ∧ As.length ≤ 20 ∧ Bs.length ≤ 20 ∧ (∀ x ∈ As, x.natAbs ≤ 2 ^ 40) ∧ ∀ H' p, Same H H' → H p = none → H' p = some (.lst ((mulL As Bs).map V.int)) → Q (.ref p) H'
theorem G_multiplied (T : Top K mg) : FnOk P w K mg base CX0 1 T.f_multiplied T.fd_multiplied ["one", "other"] (sp_multiplied K) := by
  refine T.F_multiplied.ok sc_multiplied (fun vs H Q E h => by obtain ⟨a, b, As, Bs, rfl, _⟩ := h; rfl) (fun cdv A outer s H vs Q E hr h => ?_)
  obtain ⟨a, b, As, Bs, rfl, ha, hb, lA, lB, bA, q⟩ := h
  refine ⟨_, PSs.nox (pss_cons (ps_set (i := 2) sc_multiplied.nd rfl (by first | exact Or.inl rfl | exact Or.inr rfl) (pe_op op_rep (pe_lst (pa_cons pe_int pa_nil)) (pe_callB (call_max2 rfl) (by rfl) T.n_max (by decide +kernel) (pa_cons (pe_op op_sub (pe_op op_add (pe_callB (k_len K rfl) (by rfl) T.n_len (by decide +kernel) (pa_cons (pv 0) pa_nil)) (pe_callB (k_len K rfl) (by rfl) T.n_len (by decide +kernel) (pa_cons (pv 1) pa_nil))) pe_int) (pa_cons pe_int pa_nil)))))
  (pss_cons (ps_for PassesOwn.never rfl (k_piE K rfl (by rfl) T.n_enumerate (pa_cons (pv 0) pa_nil)) (k_pgT K rfl (by rfl) (pgs_cons (pg_name (i := 3) sc_multiplied.nd rfl (by first | exact Or.inl rfl | exact Or.inr rfl)) (pgs_cons (pg_name (i := 4) sc_multiplied.nd rfl (by first | exact Or.inl rfl | exact Or.inr rfl)) pgs_nil)))
    (pss_one (ps_for PassesOwn.never rfl (k_piE K rfl (by rfl) T.n_enumerate (pa_cons (pv 1) pa_nil)) (k_pgT K rfl (by rfl) (pgs_cons (pg_name (i := 5) sc_multiplied.nd rfl (by first | exact Or.inl rfl | exact Or.inr rfl)) (pgs_cons (pg_name (i := 6) sc_multiplied.nd rfl (by first | exact Or.inl rfl | exact Or.inr rfl)) pgs_nil)))
    (pss_one (ps_asg (pe_op op_add (pe_ix (k_ixL K rfl) (pv 2) (pe_op op_add (pv 3) (pv 5)) (fun _ _ => rfl)) (pe_op op_mul (pv 4) (pv 6))) (pg_sub (pv 2) (pe_op op_add (pv 3) (pv 5)) set_list))))))
  (pss_one (ps_ret (pv 2))))), ?_⟩
  refine ⟨(by show 1 ≤ sizeLine; decide), fun p1 np1 => ?_⟩
  obtain ⟨H1, e1, s1, hp1⟩ := fresh (.lst [V.int 0]) np1
  rw [e1]
  refine ⟨_, rfl, a, _, rfl, .inl (.inl (.inl (s1 _ _ ha))), _, rfl, b, _, rfl, .inl (.inl (.inl (s1 _ _ hb))), _, _, rfl, rfl, _, _, rfl, rfl, ?_⟩
  refine ⟨_, _, rfl, ?_⟩
  dsimp only
  rw [List.length_map, List.length_map, show (if ((As.length : Int) + (Bs.length : Int) - 1) < 0 then (0 : Int) else ((As.length : Int) + (Bs.length : Int) - 1)) = ((As.length + Bs.length - 1 : Nat) : Int) by split <;> omega]
  refine ⟨p1, _, _, rfl, rfl, hp1, by omega, by omega, by rw [Int.toNat_natCast, sizeLine_eq]; show 1 * _ ≤ _; omega, fun F nF => ?_⟩
  rw [Int.toNat_natCast, rep_int]
  have e0 : (List.replicate (As.length + Bs.length - 1) (0 : Int)).map V.int = rowZ (As.length + Bs.length - 1) (cvF As Bs 0 0) := rowZ_ext (by rw [List.length_map, List.length_replicate]) fun i hi => by rw [List.getElem?_map, List.getElem?_replicate, if_pos hi, cvF_nil]; rfl
  rw [e0]
  obtain ⟨H2, e2, s2, hF⟩ := fresh (.lst (rowZ (As.length + Bs.length - 1) (cvF As Bs 0 0))) nF
  rw [e2]
  have nFH : H F = none := s1.free nF
  have s02 := s1.trans s2
  walk_at "b"
  refine ⟨_, rfl, a, _, rfl, .inl (.inl (s02 _ _ ha)), ?_⟩
  refine for_it (walk_enum (K := K) (a := a) (xs := As.map V.int)) (fun i σ HA => ∃ v3 v4 v5 v6 : Option V, σ = [some (.ref a), some (.ref b), some (.ref F), v3, v4, v5, v6] ∧ Same H HA ∧ HA F = some (.lst (rowZ (As.length + Bs.length - 1) (cvF As Bs i 0)))) ⟨none, none, none, none, rfl, s02, hF⟩ (fun i σ HA _ ⟨_, _, _, _, _, sA, _⟩ => .inl (.inl (sA _ _ ha))) ?_ ?_
  · rintro i x σ H6 H7 hi ⟨v3, v4, v5, v6, rfl, s6, hp6⟩ ⟨T1, x1, y1, rfl, nT, rfl, ex, ey⟩
    dsimp only at ex ey
    cases ex
    obtain ⟨wi, hwi, rfl⟩ := int_at ey
    have hi' : i < As.length := by rw [List.length_map] at hi; exact hi
    have ewi : As.getD i 0 = wi := by rw [List.getD_eq_getElem?_getD, hwi]; rfl
    have hwb := bA wi (List.mem_of_getElem? hwi)
    refine ⟨T1, _, rfl, .inl (.inl upd_same), rfl, _, _, rfl, _, _, rfl, rfl, ?_⟩
    have sT := same_upd (o := .tup [V.int (i : Int), V.int wi]) nT
    have hp7 := sT _ _ hp6
    have s7 := s6.trans sT
    generalize upd H6 T1 (.tup [V.int (i : Int), V.int wi]) = H7 at *
    refine ⟨_, rfl, b, _, rfl, .inl (.inl (s7 _ _ hb)), ?_⟩
    refine for_it (walk_enum (K := K) (a := b) (xs := Bs.map V.int)) (fun j σ HB => ∃ v5 v6 : Option V, σ = [some (.ref a), some (.ref b), some (.ref F), some (.int (i : Nat)), some (.int wi), v5, v6] ∧ Same H HB ∧ HB F = some (.lst (rowZ (As.length + Bs.length - 1) (cvF As Bs i j)))) ⟨v5, v6, rfl, s7, hp7⟩ (fun j σ HB _ ⟨_, _, _, sB, _⟩ => .inl (.inl (sB _ _ hb))) ?_ ?_
    · rintro j x σ H8 H9 hj ⟨v5, v6, rfl, s8, hp8⟩ ⟨T2, x2, y2, rfl, nT2, rfl, ex, ey⟩
      dsimp only at ex ey
      cases ex
      obtain ⟨uj, huj, rfl⟩ := int_at ey
      have hj' : j < Bs.length := by rw [List.length_map] at hj; exact hj
      have euj : Bs.getD j 0 = uj := by rw [List.getD_eq_getElem?_getD, huj]; rfl
      refine ⟨T2, _, rfl, .inl (.inl upd_same), rfl, _, _, rfl, _, _, rfl, rfl, ?_⟩
      have sT2 := same_upd (o := .tup [V.int (j : Int), V.int uj]) nT2
      have hp9 := sT2 _ _ hp8
      have s9 := s8.trans sT2
      generalize upd H8 T2 (.tup [V.int (j : Int), V.int uj]) = H9 at *
      have hij : i + j < As.length + Bs.length - 1 := by omega
      refine ⟨_, rfl, _, rfl, _, rfl, _, _, rfl, rfl, F, _, _, _, rfl, rfl, .inl (.inl hp9), by rw [← Int.natCast_add]; exact atI_nat (rowZ_get _ hij), ?_⟩
      refine ⟨_, rfl, _, rfl, _, _, rfl, rfl, .inl ⟨by omega, by omega⟩, _, _, rfl, rfl, ?_⟩
      refine ⟨_, rfl, _, rfl, _, rfl, _, _, rfl, rfl, F, _, _, i + j, rfl, rfl, hp9, ?_, ?_⟩
      · unfold ixN
        rw [if_pos (by omega), if_pos (by rw [rowZ_len]; omega), ← Int.natCast_add]
        rfl
      · refine ⟨_, _, rfl, same_over nFH s9, ?_⟩
        rw [upd_same]
        dsimp only
        rw [rowZ_set (g := cvF As Bs i (j + 1)) hij (by rw [cvF_step, if_pos rfl, ewi, euj]) fun k hk => by rw [cvF_step, if_neg hk]]
    · rintro σ HB ⟨v5, v6, rfl, sB, hFB⟩
      refine ⟨_, _, _, _, rfl, sB, ?_⟩
      rw [hFB, List.length_map]
      exact congrArg (fun l => some (HO.lst l)) (rowZ_congr fun k _ => cvF_next As Bs i k)
  · rintro σ HA ⟨v3, v4, v5, v6, rfl, sA, hFA⟩
    rw [List.length_map] at hFA
    refine ⟨_, rfl, q HA F sA nFH ?_⟩
    rw [hFA, rowZ_ints]
    rfl
def sp_wrapped : Sp := fun vs H Q _ => ∃ (x : Int) (d : Nat), vs = [.int x, .int d] ∧ 1 ≤ d ∧ d ≤ 24 ∧ Q (.int ((x + 2 ^ (d - 1)) % (2 * 2 ^ (d - 1)) - 2 ^ (d - 1))) H
theorem G_wrapped (T : Top K mg) : FnOk P w K mg base CX0 1 T.f_wrapped T.fd_wrapped ["number", "depth"] sp_wrapped := by
  refine T.F_wrapped.ok sc_wrapped (fun vs H Q E h => by obtain ⟨x, d, rfl, _⟩ := h; rfl) (fun cdv A outer s H vs Q E hr h => ?_)
  obtain ⟨x, d, rfl, d1, d2, q⟩ := h
  refine ⟨_, PSs.nox (pss_cons (ps_set (i := 2) sc_wrapped.nd rfl (by first | exact Or.inl rfl | exact Or.inr rfl) (pe_op op_shl pe_int (pe_op op_sub (pv 1) pe_int)))
  (pss_one (ps_ret (pe_op op_sub (pe_op op_mod (pe_op op_add (pv 0) (pv 2)) (pe_op op_mul pe_int (pv 2))) (pv 2))))), ?_⟩
  refine ⟨_, rfl, _, _, rfl, rfl, _, _, rfl, rfl, ⟨by omega, by omega, by decide⟩, ?_⟩
  have hp := half_pos d
  dsimp only
  rw [show ((d : Int) - 1).toNat = d - 1 by omega, Int.one_mul]
  generalize (2 : Int) ^ (d - 1) = h at *
  refine ⟨_, rfl, _, rfl, _, _, rfl, rfl, _, rfl, _, _, rfl, rfl, .inl ⟨by decide, by decide⟩, _, _, rfl, rfl, (by dsimp only; omega), _, rfl, _, _, rfl, rfl, ?_⟩
  exact q
def sp_told_at : Sp := fun vs H Q _ => ∃ (a b : Addr) (ws xs : List Int) (k : Nat), vs = [.ref a, .ref b, .int k] ∧ H a = some (.lst (ws.map V.int)) ∧ H b = some (.lst (xs.map V.int)) ∧ ws.length ≤ 100 ∧ (∀ w ∈ ws, w.natAbs ≤ 2 ^ 40) ∧ ws.length ≤ k ∧ k ≤ xs.length ∧ xs.length ≤ 1000 ∧ ∀ H', Same H H' → Q (.int (sumN ws.length fun i => ws.getD i 0 * xs.getD (k - 1 - i) 0)) H'
theorem G_told_at (T : Top K mg) : FnOk P w K mg base CX0 1 T.f_told_at T.fd_told_at ["weights", "row", "spot"] sp_told_at := by
  refine T.F_told_at.ok sc_told_at (fun vs H Q E h => by obtain ⟨a, b, ws, xs, k, rfl, _⟩ := h; rfl) (fun cdv A outer s H vs Q E hr h => ?_)
  obtain ⟨a, b, ws, xs, k, rfl, ha, hb, hz, hg, h1, h2, h3, q⟩ := h
  refine ⟨_, PSs.nox (pss_one (ps_ret (pe_callB (k_sum K rfl rfl) (by rfl) T.n_sum (by decide +kernel) (pa_cons (pe_lc (own := [("back", 3), ("weight", 4)]) (g := gTup K 2 (gCons (gName 3) (gCons (gName 4) (gNil)))) (tt := tYes) (by rfl) sc_told_at.nd (k_piE K rfl (by rfl) T.n_enumerate (pa_cons (pv 0) pa_nil)) (blkOk_by (own := [("back", 3), ("weight", 4)]) (N := N_told_at) (sc := defScope s_told_at) (by decide +kernel)) (fun _ _ _ _ _ => (k_pgT K rfl (by rfl) (pgs_cons (pg_name (i := 3) sc_told_at.nd rfl (by first | exact Or.inl rfl | exact Or.inr rfl)) (pgs_cons (pg_name (i := 4) sc_told_at.nd rfl (by first | exact Or.inl rfl | exact Or.inr rfl)) pgs_nil)))) (fun _ _ _ _ _ => pts_nil) (fun _ _ _ _ _ => (pe_op op_mul (pv 4) (pe_ix (k_ixL K rfl) (pv 1) (pe_op op_sub (pe_op op_sub (pv 2) pe_int) (pv 3)) (fun _ _ => rfl))))) pa_nil)))), ?_⟩
  refine ⟨_, rfl, a, _, rfl, .inl (.inl ha), fun D nD => ?_⟩
  have hxk : ∀ i, i < ws.length → (xs.map V.int)[k - 1 - i]? = some (.int (xs.getD (k - 1 - i) 0)) := fun i hi => by
    rw [ints_rowZ]
    exact rowZ_get (fun p => xs.getD p 0) (by omega)
  refine lc_dW (walk_enum (K := K) (a := a) (xs := ws.map V.int)) (Has.nil (H := H)) ((List.range ws.length).map fun i => some (PyData.int (ws.getD i 0 * xs.getD (k - 1 - i) 0))) nD (by rw [List.length_map, List.length_range, List.length_map]) (by rw [List.length_map]; exact small4 (by omega)) (fun H' s => .inl (.inl (s _ _ ha))) ?_ ?_
  · rintro i o H0 x H' hi ho s0 hS ⟨T1, y1, z1, rfl, nT, rfl, ex, ez⟩ Qt qt
    dsimp only at ex ez
    cases ex
    rw [List.length_map] at hi
    obtain ⟨wi, hwi, rfl⟩ := int_at ez
    have hwb := hg wi (List.mem_of_getElem? hwi)
    have ewi : ws.getD i 0 = wi := by rw [List.getD_eq_getElem?_getD, hwi]; rfl
    rw [List.getElem?_map, List.getElem?_range hi] at ho
    cases ho
    dsimp only at qt
    rw [ewi] at qt
    refine ⟨T1, _, rfl, .inl (.inl upd_same), rfl, _, _, rfl, _, _, rfl, rfl, rfl, ?_⟩
    unfold tYes
    dsimp only
    rw [if_pos (show true = true from rfl)]
    have sT := same_upd (o := .tup [V.int (i : Int), V.int wi]) nT
    refine ⟨_, rfl, _, rfl, _, rfl, _, _, rfl, rfl, _, rfl, _, _, rfl, rfl, b, _, _, _, rfl, rfl, .inl (.inl (sT _ _ (s0 _ _ hb))), by
      rw [show ((k : Int) - 1 - (i : Int)) = ((k - 1 - i : Nat) : Int) by omega]
      exact atI_nat (hxk i hi), _, _, rfl, rfl, .inl ⟨by omega, by omega⟩, ?_⟩
    exact qt _ _ sT (.int _)
  · intro H8 s8 hD8 hd8
    have ef : ((List.range ws.length).map fun i => some (PyData.int (ws.getD i 0 * xs.getD (k - 1 - i) 0))).filterMap id = ((List.range ws.length).map fun i => ws.getD i 0 * xs.getD (k - 1 - i) 0).map PyData.int := by
      generalize List.range ws.length = l
      induction l with
      | nil => rfl
      | cons i r ih => rw [List.map_cons, List.filterMap_cons, List.map_cons, List.map_cons, ← ih]; rfl
    rw [rs_nil, ef] at hd8
    obtain ⟨_, e, h8⟩ := Dt.intsE (ns := (List.range ws.length).map fun i => ws.getD i 0 * xs.getD (k - 1 - i) 0) hd8
    cases e
    refine ⟨D, _, rfl, .inl (.inl h8), ?_⟩
    rw [sum_range]
    exact q _ s8
end
end My

namespace My
open PySem PySem.Spec PyProof.Rows L2 Pre
/-! ### rows of rules, in a program: moved by a number of places -/
theorem joinS {b : Bool} {A : Prop} {R : L2.St → Hp → Prop} {σ : L2.St} {H : Hp} (Pv : L2.St → Hp → Prop) (cont : ∀ σ' H', Pv σ' H' → R σ' H') (h1 : b = true → (∀ σ' H', Pv σ' H' → R σ' H') → A) (h2 : b = false → Pv σ H) : if b = true then A else R σ H := by
  cases b with
  | true => exact h1 rfl cont
  | false => exact cont _ _ (h2 rfl)
/-- powers in a heap -/
def PowAt (N : Int) (ws : List Int) (p : Addr) (n : Nat) (H : Hp) : Prop := ∃ f : Nat → Int, H p = some (.lst (((List.range ws.length).map f).map V.int)) ∧ Mv N ws f n ∧ ∀ i, 0 ≤ f i ∧ f i < N
theorem PowAt.same {N : Int} {ws : List Int} {p : Addr} {n : Nat} {H H' : Hp} (s : Same H H') (h : PowAt N ws p n H) : PowAt N ws p n H' := by
  obtain ⟨f, e, r⟩ := h
  exact ⟨f, s _ _ e, r⟩
local macro_rules | `(tactic| walk_at "go") => `(tactic| repeat (first | (with_reducible first | refine iteT ?_ | refine iteF ?_ | refine iteNtt ?_ | refine iteNff ?_ | refine iteET (by omega) ?_ | refine iteEF (by omega) ?_ | refine iteENT (by omega) ?_ | refine iteENF (by omega) ?_ | refine iteDT (by omega) ?_ | refine iteDF (by omega) ?_ | refine iteNT (by omega) ?_ | refine iteNF (by omega) ?_) | refine ⟨_, rfl, ?_⟩ | refine ⟨_, _, rfl, rfl, ?_⟩ | refine ⟨_, _, rfl, ?_⟩ | refine ⟨rfl, ?_⟩ | refine .inl ⟨_, rfl, ?_⟩ | refine .inr ⟨_, rfl, ?_⟩))
local macro_rules | `(tactic| walk_at "b") => `(tactic| try dsimp (config := { proj := false, iota := false, eta := false, zeta := false }) only)
section
variable {P : Program} {w : World} {K : PySem.W.Frag} {mg : Str → Option Value} {base : Heap} [pf : Sup.PF P fileS]
def sp_moved_by : Sp := fun vs H Q _ => ∃ (a : Addr) (ws : List Int) (n : Nat) (N : Int), vs = [.ref a, .int n, .int N] ∧ H a = some (.lst (ws.map V.int)) ∧ GoodR ws ∧ 0 < N ∧ N ≤ 2 ^ 24 ∧ ∀ H' p, Same H H' → H p = none → PowAt N ws p n H' → Q (.ref p) H'
theorem G_moved_by (T : Top K mg) : FnOk P w K mg base CX0 2 T.f_moved_by T.fd_moved_by ["weights", "number", "size"] sp_moved_by := by
  refine T.F_moved_by.ok sc_moved_by (fun vs H Q E h => by obtain ⟨a, ws, n, N, rfl, _⟩ := h; rfl) (fun cdv A outer s H vs Q E hr h => ?_)
  obtain ⟨a, ws, n, N, rfl, ha, gw, hN, hN2, q⟩ := h
  refine ⟨_, PSs.nox (pss_cons (ps_par (by rfl) sc_moved_by.nd (i := 3) (j := 4) rfl rfl (by decide) rfl rfl (pa_cons (pe_call (G_reduced (P := P) T) (hr.mono (by decide)) (by rfl) T.g_reduced T.F_reduced.kp T.b_reduced .nil pass0 (pa_cons (pv 0) (pa_cons (pe_lst (pa_cons pe_int pa_nil)) (pa_cons (pv 2) pa_nil)))) (pa_cons (pe_call (G_reduced (P := P) T) (hr.mono (by decide)) (by rfl) T.g_reduced T.F_reduced.kp T.b_reduced .nil pass0 (pa_cons (pv 0) (pa_cons (pe_lst (pa_cons pe_int (pa_cons pe_int pa_nil))) (pa_cons (pv 2) pa_nil)))) pa_nil)) (by rfl))
  (pss_cons (ps_while PassesOwn.never (pt_cmpR op_gt (pv 1) pe_int (nomark _))
    (pss_cons (ps_if (pt_cmpR op_eq (pe_op op_mod (pv 1) pe_int) pe_int (nomark _))
    (pss_one (ps_set (i := 3) sc_moved_by.nd rfl (by first | exact Or.inl rfl | exact Or.inr rfl) (pe_call (G_reduced (P := P) T) (hr.mono (by decide)) (by rfl) T.g_reduced T.F_reduced.kp T.b_reduced .nil pass0 (pa_cons (pv 0) (pa_cons (pe_call (G_multiplied (P := P) T) (hr.mono (by decide)) (by rfl) T.g_multiplied T.F_multiplied.kp T.b_multiplied .nil pass0 (pa_cons (pv 3) (pa_cons (pv 4) pa_nil))) (pa_cons (pv 2) pa_nil))))))
    pss_nil)
  (pss_cons (ps_set (i := 4) sc_moved_by.nd rfl (by first | exact Or.inl rfl | exact Or.inr rfl) (pe_call (G_reduced (P := P) T) (hr.mono (by decide)) (by rfl) T.g_reduced T.F_reduced.kp T.b_reduced .nil pass0 (pa_cons (pv 0) (pa_cons (pe_call (G_multiplied (P := P) T) (hr.mono (by decide)) (by rfl) T.g_multiplied T.F_multiplied.kp T.b_multiplied .nil pass0 (pa_cons (pv 4) (pa_cons (pv 4) pa_nil))) (pa_cons (pv 2) pa_nil)))))
  (pss_one (ps_set (i := 1) sc_moved_by.nd rfl (by first | exact Or.inl rfl | exact Or.inr rfl) (pe_op op_fdivW (pv 1) pe_int))))))
  (pss_one (ps_ret (pv 3))))), ?_⟩
  have hws := gw.1
  refine ⟨_, rfl, (by show 1 ≤ sizeLine; decide), fun p1 np1 => ?_⟩
  obtain ⟨H1, e1, s1, hp1⟩ := fresh (.lst [V.int 1]) np1
  rw [e1]
  refine ⟨_, rfl, a, p1, ws, [1], N, rfl, s1 _ _ ha, hp1, gw, by decide, hN, hN2, fun H2 f0 s2 nf0 hf0 => ?_⟩
  refine ⟨_, rfl, (by show 2 ≤ sizeLine; decide), fun p2 np2 => ?_⟩
  obtain ⟨H3, e3, s3, hp2⟩ := fresh (.lst [V.int 0, .int 1]) np2
  rw [e3]
  refine ⟨_, rfl, a, p2, ws, [0, 1], N, rfl, s3 _ _ (s2 _ _ (s1 _ _ ha)), hp2, gw, by decide, hN, hN2, fun H4 g0 s4 _ hg0 => ?_⟩
  rw [rowZ_ints] at hf0 hg0
  have s04 := (s1.trans s2).trans (s3.trans s4)
  have F0 : PowAt N ws f0 0 H4 := ⟨_, s4 _ _ (s3 _ _ hf0), mv_one hN, red_range hN _⟩
  have G0 : PowAt N ws g0 1 H4 := ⟨_, hg0, mv_two hN, red_range hN _⟩
  refine ⟨_, _, rfl, ?_⟩
  refine ⟨fun μ σ H5 => ∃ (k A B : Nat) (p3 p4 : Addr), μ = k ∧ A + B * k = n ∧ σ = [some (.ref a), some (.int (k : Nat)), some (.int N), some (.ref p3), some (.ref p4)] ∧ Same H H5 ∧ H p3 = none ∧ PowAt N ws p3 A H5 ∧ PowAt N ws p4 B H5, ⟨n, n, 0, 1, f0, g0, rfl, by omega, rfl, s04, s1.free nf0, F0, G0⟩, ?_⟩
  rintro μ σ H5 ⟨k, A, B, p3, p4, rfl, eab, rfl, s5, n5, F5, G5⟩
  refine ⟨_, rfl, _, _, rfl, rfl, _, rfl, ?_⟩
  have ha5 := s5 _ _ ha
  have small : ∀ f : Nat → Int, (∀ i, 0 ≤ f i ∧ f i < N) → ∀ x ∈ (List.range ws.length).map f, x.natAbs ≤ 2 ^ 40 := fun f hf x hx => by
    obtain ⟨i, _, rfl⟩ := List.mem_map.mp hx
    have := hf i
    omega
  have len : ∀ f : Nat → Int, ((List.range ws.length).map f).length = ws.length := fun f => by rw [List.length_map, List.length_range]
  by_cases c : 0 < μ
  · refine iteDT (by omega) ?_
    refine ⟨fun σ H6 => ∃ (k A B : Nat) (p3 p4 : Addr), k = μ / 2 ∧ A + B * k = n ∧ σ = [some (.ref a), some (.int (k : Nat)), some (.int N), some (.ref p3), some (.ref p4)] ∧ Same H H6 ∧ H p3 = none ∧ PowAt N ws p3 A H6 ∧ PowAt N ws p4 B H6, fun σ' H' ⟨k, A', B', p3', p4', h1, h2, h3, h4⟩ => ⟨k, by omega, k, A', B', p3', p4', rfl, h2, h3, h4⟩, ?_⟩
    refine ⟨_, rfl, _, _, rfl, rfl, (by show (0 : Int) < 2; decide), rfl, _, rfl, ?_⟩
    refine joinS (fun σ H6 => ∃ (A' : Nat) (p3 : Addr), A' + B * 2 * (μ / 2) = n ∧ σ = [some (.ref a), some (.int (μ : Nat)), some (.int N), some (.ref p3), some (.ref p4)] ∧ Same H H6 ∧ H p3 = none ∧ PowAt N ws p3 A' H6 ∧ PowAt N ws p4 B H6) (fun σ H6 hp => ?_) (fun e k => ?_) (fun e => ?_)
    · obtain ⟨A', q3, eab', rfl, s6, n6, F6, ⟨g, hg, mg, rg⟩⟩ := hp
      refine ⟨_, rfl, _, rfl, _, rfl, p4, p4, _, _, rfl, hg, hg, by rw [len]; omega, by rw [len]; omega, small g rg, fun H7 m s7 nm hm => ?_⟩
      refine ⟨_, rfl, a, m, ws, _, N, rfl, s7 _ _ (s6 _ _ ha), hm, gw, by rw [mulL_len, len]; omega, hN, hN2, fun H8 r s8 _ hr => ?_⟩
      rw [rowZ_ints] at hr
      refine ⟨_, rfl, _, _, rfl, rfl, ⟨by decide, by decide +kernel⟩, ?_⟩
      refine ⟨μ / 2, A', B + B, q3, r, rfl, by rw [← eab', ← Nat.mul_two], by show _ = _; dsimp only; rw [show ((μ : Int) / 2) = ((μ / 2 : Nat) : Int) by omega]; rfl, (s6.trans s7).trans s8, n6, (F6.same s7).same s8, ⟨_, hr, mv_mul hN mg mg, red_range hN _⟩⟩
    · have e' : μ % 2 = 1 := by
        have := V.int.inj (of_decide_eq_true e)
        omega
      obtain ⟨f, hf, mf, rf⟩ := F5
      obtain ⟨g, hg, mg, rg⟩ := id G5
      refine ⟨_, rfl, _, rfl, _, rfl, p3, p4, _, _, rfl, hf, hg, by rw [len]; omega, by rw [len]; omega, small f rf, fun H7 m s7 nm hm => ?_⟩
      refine ⟨_, rfl, a, m, ws, _, N, rfl, s7 _ _ ha5, hm, gw, by rw [mulL_len, len, len]; omega, hN, hN2, fun H8 r s8 nr hr => ?_⟩
      rw [rowZ_ints] at hr
      refine k _ _ ⟨A + B, r, ?_, rfl, (s5.trans s7).trans s8, s5.free (s7.free nr), ⟨_, hr, mv_mul hN mf mg, red_range hN _⟩, (G5.same s7).same s8⟩
      rw [← eab, Nat.mul_assoc, show 2 * (μ / 2) = μ - 1 by omega]
      obtain ⟨t, rfl⟩ : ∃ t, μ = t + 1 := ⟨μ - 1, by omega⟩
      rw [Nat.add_sub_cancel, Nat.mul_add, Nat.mul_one]
      omega
    · have e' : ¬ μ % 2 = 1 := by
        intro z
        have := of_decide_eq_false e
        exact this (congrArg V.int (by omega))
      refine ⟨A, p3, ?_, rfl, s5, n5, F5, G5⟩
      rw [← eab, Nat.mul_assoc, show 2 * (μ / 2) = μ by omega]
  · refine iteDF (by omega) ?_
    obtain rfl : μ = 0 := by omega
    rw [Nat.mul_zero, Nat.add_zero] at eab
    exact ⟨_, rfl, q _ _ s5 n5 (eab ▸ F5)⟩
def sp_gone_on : Sp := fun vs H Q _ => ∃ (a b : Addr) (d : Nat) (ws fs : List Int) (m : Nat), vs = [.int d, .ref a, .ref b, .int m] ∧ H a = some (.lst (ws.map V.int)) ∧ H b = some (.lst (fs.map V.int)) ∧ GoodR ws ∧ fs.length = ws.length ∧ 1 ≤ d ∧ d ≤ 24 ∧ fs.length ≤ m ∧ m ≤ 900 ∧ ∀ H' p, Same H H' → H p = none → H' p = some (.lst (rowZ m (goR (2 ^ (d - 1)) ws fs))) → Q (.ref p) H'
theorem G_gone_on (T : Top K mg) : FnOk P w K mg base CX0 2 T.f_gone_on T.fd_gone_on ["depth", "weights", "firsts", "many"] sp_gone_on := by
  refine T.F_gone_on.ok sc_gone_on (fun vs H Q E h => by obtain ⟨a, b, d, ws, fs, m, rfl, _⟩ := h; rfl) (fun cdv A outer s H vs Q E hr h => ?_)
  obtain ⟨a, b, d, ws, fs, m, rfl, ha, hb, hg, hfl, d1, d2, hfm, hm, q⟩ := h
  refine ⟨_, PSs.nox (pss_cons (ps_set (i := 4) sc_gone_on.nd rfl (by first | exact Or.inl rfl | exact Or.inr rfl) (pe_callTy (k_listOf K rfl) (by rfl) T.n_list (by decide +kernel) (pa_cons (pe_slice (k_slL K rfl) (pv 2) po_none (po_some (pv 3))) pa_nil)))
  (pss_cons (ps_while PassesOwn.never (pt_cmpR op_lt (pe_callB (k_len K rfl) (by rfl) T.n_len (by decide +kernel) (pa_cons (pv 4) pa_nil)) (pv 3) (nomark _))
    (pss_one (ps_expr (pe_bm PySem.F.plainAttrs_list PySem.F.slot_list_append PySem.F.type_list_append mt_append (pv 4) (pa_cons (pe_call (G_wrapped (P := P) T) (hr.mono (by decide)) (by rfl) T.g_wrapped T.F_wrapped.kp T.b_wrapped .nil pass0 (pa_cons (pe_call (G_told_at (P := P) T) (hr.mono (by decide)) (by rfl) T.g_told_at T.F_told_at.kp T.b_told_at .nil pass0 (pa_cons (pv 1) (pa_cons (pv 4) (pa_cons (pe_callB (k_len K rfl) (by rfl) T.n_len (by decide +kernel) (pa_cons (pv 4) pa_nil)) pa_nil)))) (pa_cons (pv 0) pa_nil))) pa_nil)))))
  (pss_one (ps_ret (pv 4))))), ?_⟩
  have hws := hg.1
  have hh := half_pos d
  refine ⟨_, rfl, _, rfl, _, rfl, b, _, rfl, .inl (.inl hb), fun p0 np0 => ?_⟩
  rw [cut_take, List.take_of_length_le (by rw [List.length_map]; exact hfm)]
  obtain ⟨H0, e0, s0, hp0⟩ := fresh (.lst (fs.map V.int)) np0
  rw [e0]
  refine ⟨p0, _, rfl, .inl (.inl (.inl hp0)), fun p np => ?_⟩
  have npH : H p = none := s0.free np
  obtain ⟨H1, e1, s1, hp⟩ := fresh (.lst (fs.map V.int)) np
  rw [e1]
  have hfin := q
  generalize eh : (2 : Int) ^ (d - 1) = h at *
  refine ⟨fun μ σ H2 => ∃ k : Nat, μ + (fs.length + k) = m ∧ σ = [some (.int d), some (.ref a), some (.ref b), some (.int m), some (.ref p)] ∧ Same H H2 ∧ H2 p = some (.lst ((goL h ws fs k).map V.int)), ⟨m - fs.length, 0, by omega, rfl, s0.trans s1, hp⟩, ?_⟩
  rintro μ σ H2 ⟨k, eμ, rfl, s2, hp2⟩
  have hgl := goL_len h ws fs k
  refine ⟨_, rfl, p, _, rfl, .inl (.inl (.inl hp2)), _, rfl, _, _, rfl, rfl, _, rfl, ?_⟩
  rw [List.length_map, hgl]
  by_cases c : fs.length + k < m
  · refine iteDT (by omega) ?_
    refine ⟨fun σ H3 => ∃ k' : Nat, μ - 1 + (fs.length + k') = m ∧ σ = [some (.int d), some (.ref a), some (.ref b), some (.int m), some (.ref p)] ∧ Same H H3 ∧ H3 p = some (.lst ((goL h ws fs k').map V.int)), fun σ' H' hw => ⟨μ - 1, by omega, hw⟩, ?_⟩
    refine ⟨_, rfl, .inl ⟨rfl, _, .inl (.inl hp2)⟩, ?_⟩
    refine ⟨_, rfl, _, rfl, _, rfl, p, _, rfl, .inl (.inl (.inl hp2)), a, p, ws, goL h ws fs k, fs.length + k, by rw [List.length_map, hgl]; rfl, s2 _ _ ha, hp2, by omega, fun w hw => Nat.le_trans (hg.2 w hw) (by decide), by omega, by omega, by omega, fun H3 s3 => ?_⟩
    have hp3 := s3 _ _ hp2
    refine ⟨_, rfl, _, d, rfl, d1, d2, p, _, _, rfl, rfl, hp3, by rw [List.length_map, hgl]; exact small4 (by omega), ?_⟩
    refine ⟨k + 1, by omega, rfl, same_over npH (s2.trans s3), ?_⟩
    rw [upd_same, goL, List.map_append, eh]
    unfold nxtR
    rw [hgl]
    rfl
  · refine iteDF (by omega) ?_
    refine ⟨_, rfl, hfin _ p s2 npH ?_⟩
    have e : (goL h ws fs k).map V.int = rowZ (fs.length + k) (goR h ws fs) := by
      rw [ints_rowZ, hgl]
      exact rowZ_congr fun i hi => goL_at hi
    rw [hp2, e, show fs.length + k = m by omega]
def sp_dotted (K : PySem.W.Frag) : Sp := fun vs H Q _ => ∃ (a b : Addr) (ws xs : List Int), vs = [.ref a, .ref b] ∧ H a = some (.lst (ws.map V.int)) ∧ H b = some (.lst (xs.map V.int)) ∧ ws.length = xs.length ∧ ws.length ≤ 100 ∧ (∀ w ∈ ws, w.natAbs ≤ 2 ^ 40) ∧ ∀ H', Same H H' → Q (.int (sumN ws.length fun p => ws.getD p 0 * xs.getD p 0)) H'
theorem G_dotted (T : Top K mg) : FnOk P w K mg base CX0 1 T.f_dotted T.fd_dotted ["one", "other"] (sp_dotted K) := by
  refine T.F_dotted.ok sc_dotted (fun vs H Q E h => by obtain ⟨a, b, ws, xs, rfl, _⟩ := h; rfl) (fun cdv A outer s H vs Q E hr h => ?_)
  obtain ⟨a, b, ws, xs, rfl, ha, hb, hl, hz, hw, q⟩ := h
  refine ⟨_, PSs.nox (pss_one (ps_ret (pe_callB (k_sum K rfl rfl) (by rfl) T.n_sum (by decide +kernel) (pa_cons (pe_lc (own := [("number", 2), ("factor", 3)]) (g := gTup K 2 (gCons (gName 2) (gCons (gName 3) (gNil)))) (tt := tYes) (by rfl) sc_dotted.nd (k_piZL K rfl (by rfl) T.n_zip (pa_cons (pv 0) (pa_cons (pv 1) pa_nil)) (pk_cons pe_bl pk_nil)) (blkOk_by (own := [("number", 2), ("factor", 3)]) (N := N_dotted) (sc := defScope s_dotted) (by decide +kernel)) (fun _ _ _ _ _ => (k_pgT K rfl (by rfl) (pgs_cons (pg_name (i := 2) sc_dotted.nd rfl (by first | exact Or.inl rfl | exact Or.inr rfl)) (pgs_cons (pg_name (i := 3) sc_dotted.nd rfl (by first | exact Or.inl rfl | exact Or.inr rfl)) pgs_nil)))) (fun _ _ _ _ _ => pts_nil) (fun _ _ _ _ _ => (pe_op op_mul (pv 2) (pv 3)))) pa_nil)))), ?_⟩
  refine ⟨_, rfl, _, rfl, rfl, a, b, _, _, rfl, .inl (.inl ha), .inl (.inl hb), fun D nD => ?_⟩
  have hxi : ∀ i, i < xs.length → (xs.map V.int)[i]? = some (.int (xs.getD i 0)) := fun i hi => by
    rw [ints_rowZ]
    exact rowZ_get (fun p => xs.getD p 0) hi
  refine lc_dW (walk_zl (K := K) (a := a) (b := b) (xs := ws.map V.int) (ys := xs.map V.int) (by rw [List.length_map, List.length_map, hl])) (S := []) Has.nil ((List.range ws.length).map fun i => some (PyData.int (ws.getD i 0 * xs.getD i 0))) nD (by rw [List.length_map, List.length_range, List.length_map]) (by rw [List.length_map]; exact small4 (by omega)) (fun H' s => ⟨.inl (.inl (s _ _ ha)), .inl (.inl (s _ _ hb))⟩) ?_ ?_
  · rintro i o H0 x H' hi ho s0 hS ⟨T1, y1, z1, rfl, nT, rfl, ex, ez⟩ Qt qt
    rw [List.length_map] at hi
    obtain ⟨wi, hwi, rfl⟩ := int_at ex
    dsimp only at ez
    rw [hxi i (by omega)] at ez
    cases ez
    have hwb := hw wi (List.mem_of_getElem? hwi)
    have ewi : ws.getD i 0 = wi := by rw [List.getD_eq_getElem?_getD, hwi]; rfl
    rw [List.getElem?_map, List.getElem?_range hi] at ho
    cases ho
    dsimp only at qt
    rw [ewi] at qt
    refine ⟨T1, _, rfl, .inl (.inl upd_same), rfl, _, _, rfl, _, _, rfl, rfl, rfl, ?_⟩
    unfold tYes
    dsimp only
    rw [if_pos (show true = true from rfl)]
    refine ⟨_, rfl, _, rfl, _, _, rfl, rfl, .inl ⟨by omega, by omega⟩, ?_⟩
    exact qt _ _ (same_upd nT) (.int _)
  · intro H8 s8 hD8 hd8
    have ef : ((List.range ws.length).map fun i => some (PyData.int (ws.getD i 0 * xs.getD i 0))).filterMap id = ((List.range ws.length).map fun i => ws.getD i 0 * xs.getD i 0).map PyData.int := by
      generalize List.range ws.length = l
      induction l with
      | nil => rfl
      | cons i r ih => rw [List.map_cons, List.filterMap_cons, List.map_cons, List.map_cons, ← ih]; rfl
    rw [rs_nil, ef] at hd8
    obtain ⟨_, e, h8⟩ := Dt.intsE (ns := (List.range ws.length).map fun i => ws.getD i 0 * xs.getD i 0) hd8
    cases e
    refine ⟨D, _, rfl, .inl (.inl h8), ?_⟩
    rw [sum_range]
    exact q _ s8
end
end My

namespace My
open PySem PySem.Spec PyProof.Rows L2 Pre
/-! ### rows of rules, in a program: far samples -/
theorem cut_span {xs : List V} {a b : Nat} (h : a ≤ b) (hb : b ≤ xs.length) : cutV xs (some (a : Int)) (some (b : Int)) = (xs.drop a).take (b - a) := by
  unfold cutV
  rw [HT.sIx_nat, HT.sIx_nat, Nat.min_eq_left (by omega), Nat.min_eq_left (by omega)]
theorem row_span {n a b : Nat} (h : a ≤ b) (hb : b ≤ n) (f : Nat → Int) : ((rowZ n f).drop a).take (b - a) = ((List.range (b - a)).map fun p => f (a + p)).map V.int := by
  refine List.ext_getElem (by rw [List.length_take, List.length_drop, rowZ_len, List.length_map, List.length_map, List.length_range]; omega) fun i h1 h2 => ?_
  rw [List.length_map, List.length_map, List.length_range] at h2
  rw [List.getElem_take, List.getElem_drop, List.getElem_map, List.getElem_map, List.getElem_range]
  have := rowZ_get f (n := n) (i := a + i) (by omega)
  rw [List.getElem?_eq_getElem (by rw [rowZ_len]; omega)] at this
  exact Option.some.inj this
theorem rowZ_snoc (n : Nat) (f : Nat → Int) : rowZ n f ++ [V.int (f n)] = rowZ (n + 1) f := by
  unfold rowZ
  rw [List.range_succ, List.map_append]
  rfl
/-- samples of a depth -/
def Smp (d : Nat) (fs : List Int) : Prop := ∀ x ∈ fs, -(2 ^ (d - 1)) ≤ x ∧ x < 2 ^ (d - 1)
theorem far_eq {d : Nat} (d1 : 1 ≤ d) {ws fs : List Int} (hl : fs.length = ws.length) (hs : Smp d fs) {f : Nat → Int} {n : Nat} (hm : Mv (2 ^ d) ws f n) (i : Nat) :
    ((sumN ws.length fun p => f p * goR (2 ^ (d - 1)) ws fs (i + p)) + 2 ^ (d - 1)) % (2 * 2 ^ (d - 1)) - 2 ^ (d - 1) = goR (2 ^ (d - 1)) ws fs (i + n) := by
  refine wrap_eq (goR_range (half_pos d) hs _) ?_
  have hr := goR_fol (half_pos d) hl
  rw [two_half d1] at hr ⊢
  exact hm _ hr i
local macro_rules | `(tactic| walk_at "go") => `(tactic| repeat (first | (with_reducible first | refine iteT ?_ | refine iteF ?_ | refine iteNtt ?_ | refine iteNff ?_ | refine iteET (by omega) ?_ | refine iteEF (by omega) ?_ | refine iteENT (by omega) ?_ | refine iteENF (by omega) ?_ | refine iteDT (by omega) ?_ | refine iteDF (by omega) ?_ | refine iteNT (by omega) ?_ | refine iteNF (by omega) ?_) | refine ⟨_, rfl, ?_⟩ | refine ⟨_, _, rfl, rfl, ?_⟩ | refine ⟨_, _, rfl, ?_⟩ | refine ⟨rfl, ?_⟩ | refine .inl ⟨_, rfl, ?_⟩ | refine .inr ⟨_, rfl, ?_⟩))
local macro_rules | `(tactic| walk_at "b") => `(tactic| try dsimp (config := { proj := false, iota := false, eta := false, zeta := false }) only)
section
variable {P : Program} {w : World} {K : PySem.W.Frag} {mg : Str → Option Value} {base : Heap} [pf : Sup.PF P fileS]
def sp_state_at : Sp := fun vs H Q _ => ∃ (a b : Addr) (d : Nat) (ws fs : List Int) (n : Nat), vs = [.int d, .ref a, .ref b, .int n] ∧ H a = some (.lst (ws.map V.int)) ∧ H b = some (.lst (fs.map V.int)) ∧ GoodR ws ∧ fs.length = ws.length ∧ 1 ≤ d ∧ d ≤ 24 ∧ Smp d fs ∧ ∀ H' p, Same H H' → H' p = some (.lst (rowZ ws.length fun l => goR (2 ^ (d - 1)) ws fs (l + n))) → Q (.ref p) H'
theorem G_state_at (T : Top K mg) : FnOk P w K mg base CX0 3 T.f_state_at T.fd_state_at ["depth", "weights", "firsts", "number"] sp_state_at := by
  refine T.F_state_at.ok sc_state_at (fun vs H Q E h => by obtain ⟨a, b, d, ws, fs, n, rfl, _⟩ := h; rfl) (fun cdv A outer s H vs Q E hr h => ?_)
  obtain ⟨a, b, d, ws, fs, n, rfl, ha, hb, gw, hl, d1, d2, hs, q⟩ := h
  refine ⟨_, PSs.nox (pss_cons (ps_par (by rfl) sc_state_at.nd (i := 5) (j := 6) rfl rfl (by decide) rfl rfl (pa_cons (pe_callB (k_len K rfl) (by rfl) T.n_len (by decide +kernel) (pa_cons (pv 1) pa_nil)) (pa_cons (pe_lst pa_nil) pa_nil)) (by rfl))
  (pss_cons (ps_par (by rfl) sc_state_at.nd (i := 7) (j := 8) rfl rfl (by decide) rfl rfl (pa_cons (pe_call (G_moved_by (P := P) T) (hr.mono (by decide)) (by rfl) T.g_moved_by T.F_moved_by.kp T.b_moved_by .nil pass0 (pa_cons (pv 1) (pa_cons (pv 3) (pa_cons (pe_op op_shl pe_int (pv 0)) pa_nil)))) (pa_cons (pe_call (G_gone_on (P := P) T) (hr.mono (by decide)) (by rfl) T.g_gone_on T.F_gone_on.kp T.b_gone_on .nil pass0 (pa_cons (pv 0) (pa_cons (pv 1) (pa_cons (pv 2) (pa_cons (pe_op op_mul pe_int (pv 5)) pa_nil))))) pa_nil)) (by rfl))
  (pss_cons (ps_for PassesOwn.never rfl (pi_range1 (by rfl) T.n_range (pa_cons (pv 5) pa_nil)) (pg_name (i := 4) sc_state_at.nd rfl (by first | exact Or.inl rfl | exact Or.inr rfl))
    (pss_one (ps_expr (pe_bm PySem.F.plainAttrs_list PySem.F.slot_list_append PySem.F.type_list_append mt_append (pv 6) (pa_cons (pe_call (G_wrapped (P := P) T) (hr.mono (by decide)) (by rfl) T.g_wrapped T.F_wrapped.kp T.b_wrapped .nil pass0 (pa_cons (pe_call (G_dotted (P := P) T) (hr.mono (by decide)) (by rfl) T.g_dotted T.F_dotted.kp T.b_dotted .nil pass0 (pa_cons (pv 7) (pa_cons (pe_slice (k_slL K rfl) (pv 8) (po_some (pv 4)) (po_some (pe_op op_add (pv 4) (pv 5)))) pa_nil))) (pa_cons (pv 0) pa_nil))) pa_nil)))))
  (pss_one (ps_ret (pv 6)))))), ?_⟩
  have hws := gw.1
  have hpw : (0 : Int) < 1 * 2 ^ d := by rw [Int.one_mul]; exact Int.pow_pos (by decide)
  have hpl : (1 * 2 ^ d : Int) ≤ 2 ^ 24 := by rw [Int.one_mul]; exact pow_le_pow2 d2
  refine ⟨_, rfl, a, _, rfl, .inl (.inl (.inl ha)), Nat.zero_le _, fun F nF => ?_⟩
  rw [List.length_map]
  obtain ⟨H1, e1, s1, hF⟩ := fresh (.lst ([] : List V)) nF
  rw [e1]
  refine ⟨_, _, rfl, ?_⟩
  refine ⟨_, rfl, _, rfl, _, rfl, _, _, rfl, rfl, ⟨by omega, by omega, by decide⟩, a, ws, n, (1 * 2 ^ d : Int), rfl, s1 _ _ ha, gw, hpw, hpl, fun H2 p s2 np hP => ?_⟩
  refine ⟨_, rfl, _, rfl, _, rfl, _, rfl, _, _, rfl, rfl, .inl ⟨by decide, by decide⟩, a, b, d, ws, fs, 2 * ws.length, rfl, s2 _ _ (s1 _ _ ha), s2 _ _ (s1 _ _ hb), gw, hl, d1, d2, by omega, by omega, fun H3 r s3 nr hr => ?_⟩
  refine ⟨_, _, rfl, ?_⟩
  rw [Int.one_mul] at hP
  obtain ⟨f, hf, mf, rf⟩ := hP
  have hf3 := s3 _ _ hf
  have far := far_eq d1 hl hs mf
  have s03 := (s1.trans s2).trans s3
  have hF3 := s3 _ _ (s2 _ _ hF)
  have pF : p ≠ F := (ne_of_none hF np).symm
  have rF : r ≠ F := (ne_of_none (s2 _ _ hF) nr).symm
  refine ⟨_, rfl, _, rfl, by omega, by omega, ?_⟩
  rw [Int.toNat_natCast]
  generalize goR (2 ^ (d - 1)) ws fs = R at *
  refine for_range (lo := 0) (n := ws.length) (fun i σ HA => ∃ v8 : Option V, σ = [some (.int d), some (.ref a), some (.ref b), some (.int n), v8, some (.int (ws.length : Nat)), some (.ref F), some (.ref p), some (.ref r)] ∧ Same H HA ∧ HA F = some (.lst (rowZ i fun l => R (l + n))) ∧ HA p = some (.lst (((List.range ws.length).map f).map V.int)) ∧ HA r = some (.lst (rowZ (2 * ws.length) R))) ⟨none, rfl, s03, hF3, hf3, hr⟩ ?_ ?_
  · rintro i σ HA hi ⟨v8, rfl, sA, hFA, hpA, hrA⟩
    rw [Int.zero_add]
    refine ⟨_, rfl, .inl ⟨rfl, _, .inl (.inl hFA)⟩, _, rfl, _, rfl, _, rfl, _, rfl, _, rfl, _, rfl, _, _, rfl, rfl, _, rfl, r, _, rfl, .inl (.inl hrA), fun q1 nq1 => ?_⟩
    dsimp only
    rw [show ((i : Int) + (ws.length : Int)) = ((i + ws.length : Nat) : Int) by omega, cut_span (by omega) (by rw [rowZ_len]; omega), row_span (by omega) (by omega), show i + ws.length - i = ws.length by omega]
    obtain ⟨HB, eB, sB, hq1⟩ := fresh (.lst (((List.range ws.length).map fun p => R (i + p)).map V.int)) nq1
    rw [eB]
    have lf : ((List.range ws.length).map f).length = ws.length := by rw [List.length_map, List.length_range]
    have small : ∀ x ∈ (List.range ws.length).map f, x.natAbs ≤ 2 ^ 40 := fun x hx => by
      obtain ⟨j, _, rfl⟩ := List.mem_map.mp hx
      have := rf j
      have := pow_le_pow2 d2
      omega
    refine ⟨p, q1, _, _, rfl, sB _ _ hpA, hq1, by rw [lf, List.length_map, List.length_range], by omega, small, fun HC sC => ?_⟩
    rw [lf, sumN_congr (g := fun p => f p * R (i + p)) fun k hk => by rw [row_getD hk, row_getD hk]]
    have hFC := sC _ _ (sB _ _ hFA)
    refine ⟨_, rfl, _, d, rfl, d1, d2, F, _, _, rfl, rfl, hFC, by rw [rowZ_len]; exact small4 (by omega), ?_⟩
    rw [far i]
    have keep : ∀ {c : Addr} {o : HO}, c ≠ F → HA c = some o → upd HC F (.lst (rowZ i (fun l => R (l + n)) ++ [V.int (R (i + n))])) c = some o := fun nc h => by rw [upd_ne nc]; exact sC _ _ (sB _ _ h)
    refine ⟨_, rfl, same_over nF ((sA.trans sB).trans sC), ?_, keep pF hpA, keep rF hrA⟩
    rw [upd_same]
    exact congrArg (fun l => some (HO.lst l)) (rowZ_snoc i fun l => R (l + n))
  · rintro σ HA ⟨v8, rfl, sA, hFA, _⟩
    exact ⟨_, rfl, q HA F sA hFA⟩
end
end My

namespace My
open PySem PySem.Spec PyProof.Rows L2 Pre
/-! ### rows of rules, in a program: what is asked of firsts; samples anywhere -/
/-- a sample of a depth -/
def isS (d : Nat) : V → Bool
  | .int i => decide (-(2 ^ (d - 1)) ≤ i ∧ i < 2 ^ (d - 1))
  | _ => false
theorem Item.dp {K : PySem.W.Frag} {H : Hp} {x : V} (h : Item K H x) : ∃ d, Dp K H x d ∧ PyData.canLay0 d = true ∧ PyData.depth d ≤ 1 := by
  rcases h with ⟨i, rfl⟩ | ⟨_, _, d, a, b, c⟩
  · exact ⟨.int i, .int i, rfl, by rw [PyData.depth]; omega⟩
  · exact ⟨d, a, b, c⟩
theorem bad_dataP {K : PySem.W.Frag} {H : Hp} (p : V → Bool) : ∀ xs : List V, (∀ x ∈ xs, Item K H x) → ∃ ds, DpAll K H (xs.filter fun x => !p x) ds ∧ PyData.canLayAll0 ds = true ∧ PyData.depthAll ds ≤ 1 ∧ (ds = [] ↔ xs.all p = true)
  | [], _ => ⟨[], .nil, rfl, by rw [PyData.depthAll]; decide, by simp⟩
  | x :: r, h => by
    obtain ⟨ds, h1, h2, h3, h4⟩ := bad_dataP p r fun y hy => h y (List.mem_cons_of_mem _ hy)
    cases c : p x with
    | true => exact ⟨ds, by rw [List.filter_cons, if_neg (by rw [c]; decide)]; exact h1, h2, h3, by rw [h4, List.all_cons, c, Bool.true_and]⟩
    | false =>
      obtain ⟨d, a, b, e⟩ := (h x List.mem_cons_self).dp
      refine ⟨d :: ds, ?_, by rw [PyData.canLayAll0, h2, b]; rfl, by rw [PyData.depthAll]; omega, by simp [c]⟩
      rw [List.filter_cons, if_pos (by rw [c]; rfl)]
      exact .cons a h1
theorem all_smp {d : Nat} : ∀ {fs : List Int}, Smp d fs → (fs.map V.int).all (isS d) = true
  | [], _ => rfl
  | x :: r, h => by
    rw [List.map_cons, List.all_cons, all_smp (fs := r) fun y hy => h y (List.mem_cons_of_mem _ hy), Bool.and_true]
    exact decide_eq_true (h x List.mem_cons_self)
/-- what is no row of samples -/
def BadS (K : PySem.W.Frag) (H : Hp) (d : Nat) (v : V) : Prop := NoL K H v ∨ ∃ (a : Addr) (xs : List V), v = .ref a ∧ H a = some (.lst xs) ∧ xs.length ≤ 1000 ∧ (∀ x ∈ xs, Item K H x) ∧ xs.all (isS d) = false
theorem BadS.same {K : PySem.W.Frag} {H H' : Hp} {d : Nat} {v : V} (s : Same H H') (h : BadS K H d v) : BadS K H' d v := by
  rcases h with h | ⟨a, xs, e, h, l, r, k⟩
  · exact .inl (h.same s)
  · exact .inr ⟨a, xs, e, s _ _ h, l, fun x hx => (r x hx).same s, k⟩
/-- what are no firsts of a rule of m weights -/
def BadF (K : PySem.W.Frag) (H : Hp) (d m : Nat) (v : V) : Prop := BadS K H d v ∨ ∃ (a : Addr) (fs : List Int), v = .ref a ∧ H a = some (.lst (fs.map V.int)) ∧ Smp d fs ∧ fs.length ≤ 1000 ∧ fs.length ≠ m
theorem BadF.same {K : PySem.W.Frag} {H H' : Hp} {d m : Nat} {v : V} (s : Same H H') (h : BadF K H d m v) : BadF K H' d m v := by
  rcases h with h | ⟨a, xs, e, h, r⟩
  · exact .inl (h.same s)
  · exact .inr ⟨a, xs, e, s _ _ h, r⟩
local macro_rules | `(tactic| walk_at "go") => `(tactic| repeat (first | (with_reducible first | refine iteT ?_ | refine iteF ?_ | refine iteNtt ?_ | refine iteNff ?_ | refine iteET (by omega) ?_ | refine iteEF (by omega) ?_ | refine iteENT (by omega) ?_ | refine iteENF (by omega) ?_ | refine iteDT (by omega) ?_ | refine iteDF (by omega) ?_ | refine iteNT (by omega) ?_ | refine iteNF (by omega) ?_) | refine ⟨_, rfl, ?_⟩ | refine ⟨_, _, rfl, rfl, ?_⟩ | refine ⟨_, _, rfl, ?_⟩ | refine ⟨rfl, ?_⟩ | refine .inl ⟨_, rfl, ?_⟩ | refine .inr ⟨_, rfl, ?_⟩))
local macro_rules | `(tactic| walk_at "b") => `(tactic| try dsimp (config := { proj := false, iota := false, eta := false, zeta := false }) only)
section
variable {P : Program} {w : World} {K : PySem.W.Frag} {mg : Str → Option Value} {base : Heap} [pf : Sup.PF P fileS]
def sp_is_sample (K : PySem.W.Frag) : Sp := fun vs H Q _ => ∃ (v : V) (d : Nat) (b : Bool), vs = [v, .int d] ∧ 1 ≤ d ∧ d ≤ 24 ∧ NumV K H v (0 - 2 ^ (d - 1)) (some (2 ^ (d - 1) - 1)) b ∧ Q (.bl b) H
theorem G_is_sample (T : Top K mg) : FnOk P w K mg base CX0 3 T.f_is_sample T.fd_is_sample ["value", "depth"] (sp_is_sample K) := by
  refine T.F_is_sample.ok sc_is_sample (fun vs H Q E h => by obtain ⟨v, d, b, rfl, _⟩ := h; rfl) (fun cdv A outer s H vs Q E hr h => ?_)
  obtain ⟨v, d, b, rfl, d1, d2, hv, q⟩ := h
  refine ⟨_, PSs.nox (pss_one (ps_ret (pe_call (G_is_between (P := P) T) (hr.mono (by decide)) (by rfl) T.g_is_between T.F_is_between.kp T.b_is_between .nil pass0 (pa_cons (pv 0) (pa_cons (pe_op op_sub pe_int (pe_op op_shl pe_int (pe_op op_sub (pv 1) pe_int))) (pa_cons (pe_op op_sub (pe_op op_shl pe_int (pe_op op_sub (pv 1) pe_int)) pe_int) pa_nil)))))), ?_⟩
  refine ⟨_, rfl, _, rfl, _, _, rfl, rfl, _, _, rfl, rfl, ⟨by omega, by omega, by decide⟩, _, _, rfl, rfl, _, rfl, _, _, rfl, rfl, _, _, rfl, rfl, ⟨by omega, by omega, by decide⟩, _, _, rfl, rfl, ?_⟩
  refine ⟨v, _, some _, b, rfl, ?_, q⟩
  rw [show ((d : Int) - 1).toNat = d - 1 by omega, Int.one_mul]
  exact hv
def sp_are_samples (K : PySem.W.Frag) : Sp := fun vs H Q _ => ∃ (v : V) (d : Nat), vs = [v, .int d] ∧ 1 ≤ d ∧ d ≤ 24 ∧ ((NoL K H v ∧ Q (.bl false) H) ∨ ∃ (a : Addr) (xs : List V), v = .ref a ∧ H a = some (.lst xs) ∧ xs.length ≤ 1000 ∧ (∀ x ∈ xs, Item K H x) ∧ ∀ H', Same H H' → Q (.bl (xs.all (isS d))) H')
theorem G_are_samples (T : Top K mg) : FnOk P w K mg base CX0 4 T.f_are_samples T.fd_are_samples ["value", "depth"] (sp_are_samples K) := by
  refine T.F_are_samples.ok sc_are_samples (fun vs H Q E h => by obtain ⟨v, d, rfl, _⟩ := h; rfl) (fun cdv A outer s H vs Q E hr h => ?_)
  obtain ⟨v, d, rfl, d1, d2, h⟩ := h
  refine ⟨_, PSs.nox (pss_one (ps_ret (pe_and (pe_callB (k_isi K rfl) (by rfl) T.n_isinstance (by decide +kernel) (pa_cons (pv 0) (pa_cons (pe_bltn (v := .ty "list") (by rfl) T.n_list (by decide +kernel) rfl) pa_nil))) (pe_one (pe_cmpR (k_eqD K rfl hr.units) (pe_lc (own := [("item", 2)]) (g := gName 2) (by rfl) sc_are_samples.nd (k_piL K rfl (pv 0)) (blkOk_by (own := [("item", 2)]) (N := N_are_samples) (sc := defScope s_are_samples) (by decide +kernel)) (fun _ _ _ _ _ => (pg_name (i := 2) sc_are_samples.nd rfl (by first | exact Or.inl rfl | exact Or.inr rfl))) (fun _ _ _ _ _ => (pts_one (pt_not (pt_val (pe_call (G_is_sample (P := P) T) (hr.mono (by decide)) (by rfl) T.g_is_sample T.F_is_sample.kp T.b_is_sample .nil pass0 (pa_cons (pv 2) (pa_cons (pv 1) pa_nil))))))) (fun _ _ _ _ _ => (pv 2))) (pe_lst pa_nil) (nomark _)))))), ?_⟩
  rcases h with ⟨⟨T, ty, hT⟩, q⟩ | ⟨a, xs, rfl, ha, hz, hs, q⟩
  · exact ⟨_, rfl, _, _, _, _, false, rfl, .ty _, ty, kit_ty hT, false, rfl, iteF q⟩
  · refine ⟨_, rfl, _, _, _, _, true, rfl, .ty _, .base (.lst ha), kit_ty (by decide +kernel), true, rfl, iteT ?_⟩
    refine ⟨_, rfl, a, rfl, ⟨_, .inl (.inl ha)⟩, fun D nD => ?_⟩
    refine lc_selL (K := K) (xs := xs) (xs.map fun x => if (!isS d x) = true then some x else none) nD (.inl (.inl ha)) (by rw [List.length_map]) (small4 (by omega)) (fun x => rfl) ?_ ?_
    · intro i x o H' hx ho s Qt qt
      rw [List.getElem?_map, hx] at ho
      cases ho
      dsimp only at qt
      have hN : NumV K H' x (0 - 2 ^ (d - 1)) (some (2 ^ (d - 1) - 1)) (isS d x) := by
        rcases hs x (List.mem_of_getElem? hx) with ⟨i, rfl⟩ | ⟨a, b, _⟩
        · refine .inl ⟨i, rfl, ?_⟩
          show decide (-(2 ^ (d - 1)) ≤ i ∧ i < 2 ^ (d - 1)) = _
          rw [decide_eq_decide]
          generalize (2 : Int) ^ (d - 1) = h
          exact ⟨fun z => ⟨by omega, fun j e => by cases e; omega⟩, fun z => ⟨by omega, by have := z.2 _ rfl; omega⟩⟩
        · refine .inr ⟨b.same s, ?_⟩
          cases x with
          | int i => cases a
          | _ => rfl
      refine ⟨_, rfl, _, rfl, x, d, isS d x, rfl, d1, d2, hN, _, rfl, ?_⟩
      cases c : isS d x with
      | true =>
        rw [c] at qt
        exact iteF (qt _ (Same.refl _))
      | false =>
        rw [c] at qt
        exact iteT ⟨_, rfl, qt _ (Same.refl _)⟩
    · intro H1 s1 hD
      obtain ⟨ds, e1, e2, e3, e4⟩ := bad_dataP (isS d) xs hs
      have ef : (xs.map fun x => if (!isS d x) = true then some x else none).filterMap id = xs.filter fun x => !isS d x := by
        clear hD e1 e2 e3 e4 ha hz hs q
        induction xs with
        | nil => rfl
        | cons x r ih =>
          rw [List.map_cons, List.filterMap_cons, List.filter_cons]
          by_cases c : (!isS d x) = true
          · rw [if_pos c, if_pos c, ← ih]; rfl
          · rw [if_neg c, if_neg c, ← ih]; rfl
      rw [ef] at hD
      refine ⟨Nat.zero_le _, fun p np => ?_⟩
      have sh : SeqAt.shaped (.list ds) = true := by
        unfold SeqAt.shaped
        rw [PyData.canLay0, e2, PyData.depth, Bool.true_and]
        exact decide_eq_true (by omega)
      refine ⟨.list ds, .list [], .lst (.inl (.inl (same_upd np _ _ hD))) (dpAll_same (s1.trans (same_upd np)) e1), .lst (.inl (.inl upd_same)) .nil, sh, rfl, ?_⟩
      have ee : PyData.eqv (.list ds) (.list []) = xs.all (isS d) := by
        rw [Bool.eq_iff_iff, ← e4]
        cases ds with
        | nil => exact ⟨fun _ => rfl, fun _ => rfl⟩
        | cons y r => exact ⟨fun h => (by cases h), fun h => (by cases h)⟩
      rw [ee]
      exact q _ (s1.trans (same_upd np))
def sp_check_firsts (K : PySem.W.Frag) (C : Addr) : Sp := fun vs H Q E => ∃ (d : Nat) (b : Addr) (ws : List Int) (v : V), vs = [.int d, .ref b, v] ∧ 1 ≤ d ∧ d ≤ 24 ∧ H b = some (.lst (ws.map V.int)) ∧
  ((∃ (a : Addr) (fs : List Int), v = .ref a ∧ H a = some (.lst (fs.map V.int)) ∧ Smp d fs ∧ fs.length = ws.length ∧ fs.length ≤ 1000 ∧ ∀ H', Same H H' → Q .non H') ∨
  (BadF K H d ws.length v ∧ ∀ H' dd, Same H H' → H' dd = none → E (.ref C) (some dd) (upd H' dd (.xd [("value", v)]))))
theorem G_check_firsts (T : Top K mg) : FnOk P w K mg base (L2.CX P w) 5 T.f_check_firsts T.fd_check_firsts ["depth", "weights", "firsts"] (sp_check_firsts K T.C_InvalidRow) := by
  refine T.F_check_firsts.ok (CX := L2.CX P w) sc_check_firsts (fun vs H Q E h => by obtain ⟨d, b, ws, v, rfl, _⟩ := h; rfl) (fun cdv A outer s H vs Q E hr h => ?_)
  obtain ⟨d, b, ws, v, rfl, d1, d2, hb, h⟩ := h
  refine ⟨_, (pss_one (ps_if (PW.pt (pw_or (pt_not (pt_val (pe_call (G_are_samples (P := P) T) (hr.mono (by decide)) (by rfl) T.g_are_samples T.F_are_samples.kp T.b_are_samples .nil pass0 (pa_cons (pv 2) (pa_cons (pv 0) pa_nil))))) (pw_or1 (pt_cmpR op_ne (pe_callB (k_len K rfl) (by rfl) T.n_len (by decide +kernel) (pa_cons (pv 2) pa_nil)) (pe_callB (k_len K rfl) (by rfl) T.n_len (by decide +kernel) (pa_cons (pv 1) pa_nil)) (nomark _)))))
    (pss_one (ps_raise rfl (takes_of rfl rfl rfl rfl) (pmk_oex T.er_InvalidRow.sup.T T.er_InvalidRow.ini T.er_InvalidRow.ity (G_InvalidRow___init__ (P := P) (CX := CX0) T) (hr.mono (by decide)) T.er_InvalidRow.bnd .nil pass0 (by rfl) T.gc_InvalidRow (pa_cons (pv 2) pa_nil))))
    pss_nil)), ?_⟩
  rcases h with ⟨a, fs, rfl, ha, hs, hl, hz, q⟩ | ⟨(hv | ⟨a, xs, rfl, ha, hz, hi, hbad⟩) | ⟨a, fs, rfl, ha, hs, hz, hl⟩, q⟩
  · refine ⟨_, rfl, _, rfl, _, d, rfl, d1, d2, .inr ⟨a, _, rfl, ha, by rw [List.length_map]; exact hz, simple_ints fs, fun H1 s1 => ?_⟩⟩
    rw [all_smp hs]
    refine ⟨_, rfl, iteF ?_⟩
    refine ⟨_, rfl, a, _, rfl, .inl (.inl (.inl (s1 _ _ ha))), _, rfl, b, _, rfl, .inl (.inl (.inl (s1 _ _ hb))), rfl, _, rfl, iteENF (by rw [List.length_map, List.length_map, hl]) ?_⟩
    exact q _ s1
  · refine ⟨_, rfl, _, rfl, v, d, rfl, d1, d2, .inl ⟨hv, ⟨_, rfl, iteT ?_⟩⟩⟩
    exact iteT ⟨_, rfl, mk_sup fun dd nd => q _ dd (Same.refl _) nd⟩
  · refine ⟨_, rfl, _, rfl, _, d, rfl, d1, d2, .inr ⟨a, xs, rfl, ha, hz, hi, fun H1 s1 => ?_⟩⟩
    rw [hbad]
    refine ⟨_, rfl, iteT ?_⟩
    exact iteT ⟨_, rfl, mk_sup fun dd nd => q _ dd s1 nd⟩
  · refine ⟨_, rfl, _, rfl, _, d, rfl, d1, d2, .inr ⟨a, _, rfl, ha, by rw [List.length_map]; exact hz, simple_ints fs, fun H1 s1 => ?_⟩⟩
    rw [all_smp hs]
    refine ⟨_, rfl, iteF ?_⟩
    refine ⟨_, rfl, a, _, rfl, .inl (.inl (.inl (s1 _ _ ha))), _, rfl, b, _, rfl, .inl (.inl (.inl (s1 _ _ hb))), rfl, _, rfl, iteENT (by rw [List.length_map, List.length_map]; omega) ?_⟩
    exact ⟨_, rfl, mk_sup fun dd nd => q _ dd s1 nd⟩
theorem goR_nil {h : Int} (hh : 0 < h) {fs : List Int} (e : fs.length = 0) (n : Nat) : goR h [] fs n = 0 := by
  obtain rfl := List.length_eq_zero_iff.mp e
  rw [← goL_at (k := n + 1) (by simp), goL, List.getD_eq_getElem?_getD, List.getElem?_append_right (by rw [goL_len]; simp), goL_len, show n - (([] : List Int).length + n) = 0 by simp]
  show nxtR h [] (goL h [] [] n) = 0
  unfold nxtR
  show ((0 : Int) + h) % (2 * h) - h = 0
  rw [Int.zero_add, Int.emod_eq_of_lt (by omega) (by omega), Int.sub_self]
def sp_sample_at (K : PySem.W.Frag) (CD CW CR CN : Addr) : Sp := fun vs H Q E => ∃ v u x y : V, vs = [v, u, x, y] ∧
  ((∃ d : Nat, v = .int d ∧ 1 ≤ d ∧ d ≤ 24 ∧
    ((∃ (a : Addr) (ws : List Int), u = .ref a ∧ H a = some (.lst (ws.map V.int)) ∧ GoodR ws ∧
      ((∃ (b : Addr) (fs : List Int), x = .ref b ∧ H b = some (.lst (fs.map V.int)) ∧ Smp d fs ∧ fs.length = ws.length ∧
        ((∃ n : Nat, y = .int n ∧ n ≤ 10 ^ 18 ∧ ∀ H', Same H H' → Q (.int (goR (2 ^ (d - 1)) ws fs n)) H') ∨
          (NumV K H y 0 (some (10 ^ 18)) false ∧ ∀ H' dd, Same H H' → H' dd = none → E (.ref CN) (some dd) (upd H' dd (.xd [("value", y)]))))) ∨
        (BadF K H d ws.length x ∧ ∀ H' dd, Same H H' → H' dd = none → E (.ref CR) (some dd) (upd H' dd (.xd [("value", x)]))))) ∨
      (BadR K H u ∧ ∀ H' dd, Same H H' → H' dd = none → E (.ref CW) (some dd) (upd H' dd (.xd [("value", u)]))))) ∨
   (NumV K H v 1 (some 24) false ∧ ∀ H' dd, Same H H' → H' dd = none → E (.ref CD) (some dd) (upd H' dd (.xd [("value", v)]))))
theorem G_sample_at (T : Top K mg) : FnOk P w K mg base (L2.CX P w) 6 T.f_sample_at T.fd_sample_at ["depth", "weights", "firsts", "number"] (sp_sample_at K T.C_InvalidDepth T.C_InvalidWeights T.C_InvalidRow T.C_InvalidNumber) := by
  refine T.F_sample_at.ok (CX := L2.CX P w) sc_sample_at (fun vs H Q E h => by obtain ⟨v, u, x, y, rfl, _⟩ := h; rfl) (fun cdv A outer s H vs Q E hr h => ?_)
  obtain ⟨v, u, x, y, rfl, h⟩ := h
  refine ⟨_, (pss_cons (ps_expr (pe_call (G_check_depth (P := P) T) (hr.mono (by decide)) (by rfl) T.g_check_depth T.F_check_depth.kp T.b0_check_depth T.v0_check_depth (passes_call (takes_of rfl rfl rfl rfl) (fun _ _ _ _ h => h)) (pa_cons (pv 0) pa_nil)))
  (pss_cons (ps_expr (pe_call (G_check_rule (P := P) T) (hr.mono (by decide)) (by rfl) T.g_check_rule T.F_check_rule.kp T.b_check_rule .nil (passes_call (takes_of rfl rfl rfl rfl) (fun _ _ _ _ h => h)) (pa_cons (pv 1) pa_nil)))
  (pss_cons (ps_expr (pe_call (G_check_firsts (P := P) T) (hr.mono (by decide)) (by rfl) T.g_check_firsts T.F_check_firsts.kp T.b_check_firsts .nil (passes_call (takes_of rfl rfl rfl rfl) (fun _ _ _ _ h => h)) (pa_cons (pv 0) (pa_cons (pv 1) (pa_cons (pv 2) pa_nil)))))
  (pss_cons (ps_expr (pe_call (G_check_number (P := P) T) (hr.mono (by decide)) (by rfl) T.g_check_number T.F_check_number.kp T.b_check_number .nil (passes_call (takes_of rfl rfl rfl rfl) (fun _ _ _ _ h => h)) (pa_cons (pv 3) (pa_cons pe_int (pa_cons (pe_glob (v := .int 1000000000000000000) rfl T.m_MOST_PLACE ⟨_, rfl⟩) pa_nil)))))
  (pss_one (ps_ret (pe_ix (k_ixL K rfl) (pe_op op_cat (pe_call (G_state_at (P := P) T) (hr.mono (by decide)) (by rfl) T.g_state_at T.F_state_at.kp T.b_state_at .nil pass0 (pa_cons (pv 0) (pa_cons (pv 1) (pa_cons (pv 2) (pa_cons (pv 3) pa_nil))))) (pe_lst (pa_cons pe_int pa_nil))) pe_int (fun _ _ => rfl)))))))), ?_⟩
  have dok : ∀ {H : Hp} {d : Nat}, 1 ≤ d → d ≤ 24 → NumV K H (.int (d : Int)) 1 (some 24) true := fun d1 d2 => .inl ⟨_, rfl, (decide_eq_true ⟨by omega, fun j e => by cases e; omega⟩).symm⟩
  rcases h with ⟨d, rfl, d1, d2, ⟨a, ws, rfl, ha, gw, ⟨b, fs, rfl, hb, hs, hl, hy⟩ | ⟨hx, q⟩⟩ | ⟨hu, q⟩⟩ | ⟨hv, q⟩
  · have hws := gw.1
    refine ⟨_, rfl, _, 24, true, rfl, dok d1 d2, fun _ => ?_, fun z => nomatch z⟩
    refine ⟨_, rfl, _, rfl, .inl ⟨a, ws, rfl, ha, gw, fun H1 s1 => ?_⟩⟩
    refine ⟨_, rfl, _, rfl, _, rfl, d, a, ws, _, rfl, d1, d2, s1 _ _ ha, .inl ⟨b, fs, rfl, s1 _ _ hb, hs, hl, by omega, fun H2 s2 => ?_⟩⟩
    have s02 := s1.trans s2
    rcases hy with ⟨n, rfl, hn, q⟩ | ⟨hN, q⟩
    · refine ⟨_, rfl, _, 0, some (10 ^ 18), true, rfl, .inl ⟨_, rfl, (decide_eq_true ⟨by omega, fun j e => by cases e; omega⟩).symm⟩, fun _ => ?_, fun z => nomatch z⟩
      refine ⟨_, rfl, _, rfl, _, rfl, _, rfl, a, b, d, ws, fs, n, rfl, s02 _ _ ha, s02 _ _ hb, gw, hl, d1, d2, hs, fun H3 p s3 hp => ?_⟩
      refine ⟨(by show 1 ≤ sizeLine; decide), fun z nz => ?_⟩
      obtain ⟨H4, e4, s4, hz⟩ := fresh (.lst [V.int 0]) nz
      rw [e4]
      refine ⟨p, z, _, _, rfl, rfl, s4 _ _ hp, hz, by rw [rowZ_len, sizeLine_eq]; show _ + 1 ≤ _; omega, fun c nc => ?_⟩
      have h0 : (rowZ ws.length (fun l => goR (2 ^ (d - 1)) ws fs (l + n)) ++ [V.int 0])[0]? = some (.int (goR (2 ^ (d - 1)) ws fs n)) := by
        by_cases h : ws.length = 0
        · obtain rfl := List.length_eq_zero_iff.mp h
          rw [goR_nil (half_pos d) hl]
          rfl
        · rw [List.getElem?_append_left (by rw [rowZ_len]; omega), rowZ_get _ (by omega), Nat.zero_add]
      exact ⟨c, _, _, _, rfl, rfl, .inl (.inl upd_same), atI_nat h0, q _ (((s02.trans s3).trans s4).trans (same_upd nc))⟩
    · exact ⟨_, rfl, _, 0, some (10 ^ 18), false, rfl, hN.same s02, (fun z => nomatch z), fun _ dd nd => q _ dd s02 nd⟩
  · refine ⟨_, rfl, _, 24, true, rfl, dok d1 d2, fun _ => ?_, fun z => nomatch z⟩
    refine ⟨_, rfl, _, rfl, .inl ⟨a, ws, rfl, ha, gw, fun H1 s1 => ?_⟩⟩
    exact ⟨_, rfl, _, rfl, _, rfl, d, a, ws, _, rfl, d1, d2, s1 _ _ ha, .inr ⟨hx.same s1, fun H' dd s nd => q H' dd (s1.trans s) nd⟩⟩
  · refine ⟨_, rfl, _, 24, true, rfl, dok d1 d2, fun _ => ?_, fun z => nomatch z⟩
    exact ⟨_, rfl, _, rfl, .inr ⟨hu, q⟩⟩
  · exact ⟨_, rfl, _, 24, false, rfl, hv, (fun z => nomatch z), fun _ dd nd => q H dd (Same.refl _) nd⟩
end
end My

namespace My
open PySem PySem.Spec PyProof.Rows L2 Pre
/-! ### the law's rows and rules -/
local macro_rules | `(tactic| walk_at "go") => `(tactic| repeat (first | (with_reducible first | refine iteT ?_ | refine iteF ?_ | refine iteNtt ?_ | refine iteNff ?_ | refine iteET (by omega) ?_ | refine iteEF (by omega) ?_ | refine iteENT (by omega) ?_ | refine iteENF (by omega) ?_ | refine iteDT (by omega) ?_ | refine iteDF (by omega) ?_ | refine iteNT (by omega) ?_ | refine iteNF (by omega) ?_) | refine ⟨_, rfl, ?_⟩ | refine ⟨_, _, rfl, rfl, ?_⟩ | refine ⟨_, _, rfl, ?_⟩ | refine ⟨rfl, ?_⟩ | refine .inl ⟨_, rfl, ?_⟩ | refine .inr ⟨_, rfl, ?_⟩))
local macro_rules | `(tactic| walk_at "b") => `(tactic| try dsimp (config := { proj := false, iota := false, eta := false, zeta := false }) only)
section
variable {P : Program} {w : World} {K : PySem.W.Frag} {mg : Str → Option Value} {base : Heap} [pf : Sup.PF P fileS]
def sp_law_row : Sp := fun vs H Q _ => ∃ (g : Addr) (n d m : Nat), vs = [.ref g, .int d, .int m] ∧ GenAt H g n ∧ n ≤ 10 ^ 9 ∧ 1 ≤ d ∧ d ≤ 24 ∧ m ≤ 10 ∧ ∀ (H' : Hp) (p : Addr) (ys : List Int), But g H H' → H p = none → p ≠ g → GenAt H' g (n + 1000) → H' p = some (.lst (ys.map V.int)) → ys.length = m → Smp d ys → Q (.ref p) H'
theorem G_law_row (T : Top K mg) : FnOk P w K mg base CX0 3 T.f_law_row T.fd_law_row ["_law_generator_here", "_law_depth", "_law_many"] sp_law_row := by
  refine T.F_law_row.ok sc_law_row (fun vs H Q E h => by obtain ⟨g, n, d, m, rfl, _⟩ := h; rfl) (fun cdv A outer s H vs Q E hr h => ?_)
  obtain ⟨g, n, d, m, rfl, hG, hn, d1, d2, hm, q⟩ := h
  refine ⟨_, PSs.nox (pss_one (ps_ret (pe_lc (own := [("_law_turn", 3)]) (g := gName 3) (tt := tYes) (by rfl) sc_law_row.nd (pi_range1 (by rfl) T.n_range (pa_cons (pv 2) pa_nil)) (blkOk_by (own := [("_law_turn", 3)]) (N := N_law_row) (sc := defScope s_law_row) (by decide +kernel)) (fun _ _ _ _ _ => (pg_name (i := 3) sc_law_row.nd rfl (by first | exact Or.inl rfl | exact Or.inr rfl))) (fun _ _ _ _ _ => pts_nil) (fun _ _ _ _ _ => (pe_op op_sub (pe_call (G_law_random (P := P) T) (hr.mono (by decide)) (by rfl) T.g_law_random T.F_law_random.kp T.b_law_random .nil pass0 (pa_cons (pv 0) (pa_cons (pe_op op_shl pe_int (pv 1)) pa_nil))) (pe_op op_shl pe_int (pe_op op_sub (pv 1) pe_int))))))), ?_⟩
  refine ⟨_, rfl, _, rfl, by omega, by omega, fun D nD => ?_⟩
  rw [Int.toNat_natCast]
  have hp := pow_le_pow2 d2
  refine lc_drawR (lo := 0) (n := m) g n 100 (fun y => -(2 ^ (d - 1)) ≤ y ∧ y < 2 ^ (d - 1)) nD hG (small4 (by omega)) (fun x => rfl) ?_ ?_
  · intro i H' hi b gi Qt qt
    refine ⟨_, rfl, _, rfl, _, _, rfl, rfl, ⟨by omega, by omega, by decide⟩, g, _, _, rfl, gi, by omega, by rw [Int.one_mul, Int.toNat_natCast]; exact Int.pow_pos (by decide), by rw [Int.one_mul, Int.toNat_natCast]; exact Int.lt_of_le_of_lt hp (by decide +kernel), fun x H2 x0 x1 g2 b2 => ?_⟩
    refine ⟨_, rfl, _, _, rfl, rfl, _, _, rfl, rfl, ⟨by omega, by omega, by decide⟩, _, _, rfl, rfl, ?_⟩
    refine qt _ _ ?_ b2 (g2.mono (by omega))
    have e2 := two_half d1
    have hh := half_pos d
    rw [Int.one_mul, show ((d : Int) - 1).toNat = d - 1 by omega]
    rw [Int.one_mul, Int.toNat_natCast, ← e2] at x1
    omega
  · intro H' ys b g1 hD hl hP
    exact q H' D ys b nD (hG.ne nD) (g1.mono (by omega)) hD hl hP
def sp_law_weights : Sp := fun vs H Q _ => ∃ (g : Addr) (n m : Nat), vs = [.ref g, .int m] ∧ GenAt H g n ∧ n ≤ 10 ^ 9 ∧ m ≤ 8 ∧ ∀ (H' : Hp) (p : Addr) (ys : List Int), But g H H' → H p = none → p ≠ g → GenAt H' g (n + 3000) → H' p = some (.lst (ys.map V.int)) → GoodR ys → ys.length = m → Q (.ref p) H'
def sp_law_sum : Sp := fun vs H Q _ => ∃ (a b : Addr) (ws xs : List Int) (k : Nat), vs = [.ref a, .ref b, .int k] ∧ H a = some (.lst (ws.map V.int)) ∧ H b = some (.lst (xs.map V.int)) ∧ ws.length ≤ 100 ∧ (∀ w ∈ ws, w.natAbs ≤ 2 ^ 40) ∧ ws.length ≤ k ∧ k ≤ xs.length ∧ xs.length ≤ 1000 ∧ ∀ H', Same H H' → Q (.int (sumN ws.length fun i => ws.getD i 0 * xs.getD (k - 1 - i) 0)) H'
theorem G_law_sum (T : Top K mg) : FnOk P w K mg base CX0 1 T.f_law_sum T.fd_law_sum ["_law_weights", "_law_row_here", "_law_spot"] sp_law_sum := by
  refine T.F_law_sum.ok sc_law_sum (fun vs H Q E h => by obtain ⟨a, b, ws, xs, k, rfl, _⟩ := h; rfl) (fun cdv A outer s H vs Q E hr h => ?_)
  obtain ⟨a, b, ws, xs, k, rfl, ha, hb, hws, hg, h1, h2, h3, q⟩ := h
  refine ⟨_, PSs.nox (pss_one (ps_ret (pe_callB (k_sum K rfl rfl) (by rfl) T.n_sum (by decide +kernel) (pa_cons (pe_lc (own := [("_law_back", 3)]) (g := gName 3) (tt := tYes) (by rfl) sc_law_sum.nd (pi_range1 (by rfl) T.n_range (pa_cons (pe_callB (k_len K rfl) (by rfl) T.n_len (by decide +kernel) (pa_cons (pv 0) pa_nil)) pa_nil)) (blkOk_by (own := [("_law_back", 3)]) (N := N_law_sum) (sc := defScope s_law_sum) (by decide +kernel)) (fun _ _ _ _ _ => (pg_name (i := 3) sc_law_sum.nd rfl (by first | exact Or.inl rfl | exact Or.inr rfl))) (fun _ _ _ _ _ => pts_nil) (fun _ _ _ _ _ => (pe_op op_mul (pe_ix (k_ixL K rfl) (pv 0) (pv 3) (fun _ _ => rfl)) (pe_ix (k_ixL K rfl) (pv 1) (pe_op op_sub (pe_op op_sub (pv 2) pe_int) (pv 3)) (fun _ _ => rfl))))) pa_nil)))), ?_⟩
  refine ⟨_, rfl, a, _, rfl, .inl (.inl (.inl ha)), ?_⟩
  rw [List.length_map]
  refine ⟨_, rfl, by omega, by omega, fun D nD => ?_⟩
  rw [Int.toNat_natCast]
  refine lc_mapR (lo := 0) (n := ws.length) (((List.range ws.length).map fun i => ws.getD i 0 * xs.getD (k - 1 - i) 0).map V.int) nD (by rw [List.length_map, List.length_map, List.length_range]) (small4 (by omega)) (fun x => rfl) ?_ ?_
  · intro i y H' hi hy s Qt qt
    rw [List.getElem?_map, List.getElem?_map, List.getElem?_range hi] at hy
    cases hy
    rw [Int.zero_add]
    have hwi : (ws.map V.int)[i]? = some (.int (ws.getD i 0)) := by rw [ints_rowZ]; exact rowZ_get (fun p => ws.getD p 0) hi
    have hxi : (xs.map V.int)[k - 1 - i]? = some (.int (xs.getD (k - 1 - i) 0)) := by rw [ints_rowZ]; exact rowZ_get (fun p => xs.getD p 0) (by omega)
    have hb8 : (ws.getD i 0).natAbs ≤ 2 ^ 40 := by
      rw [List.getD_eq_getElem?_getD, List.getElem?_eq_getElem hi]
      exact hg _ (List.getElem_mem hi)
    refine ⟨_, rfl, _, rfl, a, _, _, _, rfl, rfl, .inl (.inl (s _ _ ha)), atI_nat hwi, ?_⟩
    refine ⟨_, rfl, _, rfl, _, _, rfl, rfl, _, rfl, _, _, rfl, rfl, b, _, _, _, rfl, rfl, .inl (.inl (s _ _ hb)), by
      rw [show ((k : Int) - 1 - (i : Int)) = ((k - 1 - i : Nat) : Int) by omega]
      exact atI_nat hxi, _, _, rfl, rfl, .inl ⟨by omega, by omega⟩, ?_⟩
    exact qt _ (Same.refl _)
  · intro H1 s1 hD
    refine ⟨D, _, rfl, .inl (.inl hD), ?_⟩
    rw [sum_range]
    exact q _ s1
def sp_law_gone : Sp := fun vs H Q _ => ∃ (a b : Addr) (d : Nat) (ws fs : List Int) (m : Nat), vs = [.int d, .ref a, .ref b, .int m] ∧ H a = some (.lst (ws.map V.int)) ∧ H b = some (.lst (fs.map V.int)) ∧ GoodR ws ∧ fs.length = ws.length ∧ 1 ≤ d ∧ d ≤ 24 ∧ fs.length ≤ m ∧ m ≤ 900 ∧ ∀ H' p, Same H H' → H p = none → H' p = some (.lst (rowZ m (goR (2 ^ (d - 1)) ws fs))) → Q (.ref p) H'
theorem G_law_gone (T : Top K mg) : FnOk P w K mg base CX0 2 T.f_law_gone T.fd_law_gone ["_law_depth", "_law_weights", "_law_firsts", "_law_many"] sp_law_gone := by
  refine T.F_law_gone.ok sc_law_gone (fun vs H Q E h => by obtain ⟨a, b, d, ws, fs, m, rfl, _⟩ := h; rfl) (fun cdv A outer s H vs Q E hr h => ?_)
  obtain ⟨a, b, d, ws, fs, m, rfl, ha, hb, hg, hfl, d1, d2, hfm, hm, q⟩ := h
  refine ⟨_, PSs.nox (pss_cons (ps_par (by rfl) sc_law_gone.nd (i := 4) (j := 5) rfl rfl (by decide) rfl rfl (pa_cons (pe_callTy (k_listOf K rfl) (by rfl) T.n_list (by decide +kernel) (pa_cons (pv 2) pa_nil)) (pa_cons (pe_op op_shl pe_int (pe_op op_sub (pv 0) pe_int)) pa_nil)) (by rfl))
  (pss_cons (ps_while PassesOwn.never (pt_cmpR op_lt (pe_callB (k_len K rfl) (by rfl) T.n_len (by decide +kernel) (pa_cons (pv 4) pa_nil)) (pv 3) (nomark _))
    (pss_one (ps_expr (pe_bm PySem.F.plainAttrs_list PySem.F.slot_list_append PySem.F.type_list_append mt_append (pv 4) (pa_cons (pe_op op_sub (pe_op op_mod (pe_callTy call_int1 (by rfl) T.n_int (by decide +kernel) (pa_cons (pe_op op_add (pe_call (G_law_sum (P := P) T) (hr.mono (by decide)) (by rfl) T.g_law_sum T.F_law_sum.kp T.b_law_sum .nil pass0 (pa_cons (pv 1) (pa_cons (pv 4) (pa_cons (pe_callB (k_len K rfl) (by rfl) T.n_len (by decide +kernel) (pa_cons (pv 4) pa_nil)) pa_nil)))) (pv 5)) pa_nil)) (pe_op op_mul pe_int (pv 5))) (pv 5)) pa_nil)))))
  (pss_one (ps_ret (pe_slice (k_slL K rfl) (pv 4) po_none (po_some (pv 3))))))), ?_⟩
  have hws := hg.1
  have hh := half_pos d
  refine ⟨_, rfl, b, _, rfl, .inl (.inl (.inl hb)), fun p np => ?_⟩
  obtain ⟨H1, e1, s1, hp⟩ := fresh (.lst (fs.map V.int)) np
  rw [e1]
  refine ⟨_, rfl, _, _, rfl, rfl, _, _, rfl, rfl, ⟨by omega, by omega, by decide⟩, ?_⟩
  refine ⟨_, _, rfl, ?_⟩
  dsimp only
  rw [show ((d : Int) - 1).toNat = d - 1 by omega, Int.one_mul]
  generalize (2 : Int) ^ (d - 1) = h at *
  refine ⟨fun μ σ H2 => ∃ k : Nat, μ + (fs.length + k) = m ∧ σ = [some (.int d), some (.ref a), some (.ref b), some (.int m), some (.ref p), some (.int h)] ∧ Same H H2 ∧ H2 p = some (.lst ((goL h ws fs k).map V.int)), ⟨m - fs.length, 0, by omega, rfl, s1, hp⟩, ?_⟩
  rintro μ σ H2 ⟨k, eμ, rfl, s2, hp2⟩
  have hgl := goL_len h ws fs k
  refine ⟨_, rfl, p, _, rfl, .inl (.inl (.inl hp2)), _, rfl, _, _, rfl, rfl, _, rfl, ?_⟩
  rw [List.length_map, hgl]
  by_cases c : fs.length + k < m
  · refine iteDT (by omega) ?_
    refine ⟨fun σ H3 => ∃ k' : Nat, μ - 1 + (fs.length + k') = m ∧ σ = [some (.int d), some (.ref a), some (.ref b), some (.int m), some (.ref p), some (.int h)] ∧ Same H H3 ∧ H3 p = some (.lst ((goL h ws fs k').map V.int)), fun σ' H' hw => ⟨μ - 1, by omega, hw⟩, ?_⟩
    refine ⟨_, rfl, .inl ⟨rfl, _, .inl (.inl hp2)⟩, ?_⟩
    refine ⟨_, rfl, _, rfl, _, rfl, p, _, rfl, .inl (.inl (.inl hp2)), a, p, ws, goL h ws fs k, fs.length + k, by rw [List.length_map, hgl]; rfl, s2 _ _ ha, hp2, by omega, fun w hw => Nat.le_trans (hg.2 w hw) (by decide), by omega, by omega, by omega, fun H3 s3 => ?_⟩
    have hp3 := s3 _ _ hp2
    refine ⟨_, rfl, _, _, rfl, rfl, .inl ⟨_, rfl, ?_⟩⟩
    refine ⟨_, rfl, _, _, rfl, rfl, .inl ⟨by decide, by decide⟩, _, _, rfl, rfl, (by dsimp only; omega), _, rfl, _, _, rfl, rfl, p, _, _, rfl, rfl, hp3, by rw [List.length_map, hgl]; exact small4 (by omega), ?_⟩
    refine ⟨k + 1, by omega, rfl, same_over np (s2.trans s3), ?_⟩
    rw [upd_same, goL, List.map_append]
    unfold nxtR
    rw [hgl]
    rfl
  · refine iteDF (by omega) ?_
    refine ⟨_, rfl, _, rfl, _, rfl, p, _, rfl, .inl (.inl hp2), fun p2 np2 => ?_⟩
    refine q _ p2 (s2.trans (same_upd np2)) (s2.free np2) ?_
    rw [upd_same, cut_take, show m = fs.length + k by omega]
    have e : (goL h ws fs k).map V.int = rowZ (fs.length + k) (goR h ws fs) := by
      rw [ints_rowZ, hgl]
      exact rowZ_congr fun i hi => goL_at hi
    rw [e, rowZ_take (Nat.le_refl _)]
end
end My

namespace My
/-! ### two rows: where they are unlike for ever -/
/-- the last odd weight -/
theorem odd_top (ws : List Int) : ∃ n, n ≤ ws.length ∧ (∀ b, n ≤ b → b < ws.length → 2 ∣ ws.getD b 0) ∧ (0 < n → ¬ 2 ∣ ws.getD (n - 1) 0) := by
  suffices h : ∀ m, m ≤ ws.length → (∀ b, m ≤ b → b < ws.length → 2 ∣ ws.getD b 0) → ∃ n, n ≤ ws.length ∧ (∀ b, n ≤ b → b < ws.length → 2 ∣ ws.getD b 0) ∧ (0 < n → ¬ 2 ∣ ws.getD (n - 1) 0) from h ws.length (Nat.le_refl _) fun b h1 h2 => by omega
  intro m
  induction m with
  | zero => intro h1 h2; exact ⟨0, h1, h2, fun h => absurd h (by decide)⟩
  | succ m ih =>
    intro h1 h2
    by_cases c : 2 ∣ ws.getD m 0
    · exact ih (by omega) fun b h3 h4 => by
        by_cases e : b = m
        · rw [e]; exact c
        · exact h2 b (by omega) h4
    · exact ⟨m + 1, h1, h2, fun _ => c⟩
theorem Fol.mono {N M : Int} {ws : List Int} {r : Nat → Int} (h : Fol M ws r) (d : N ∣ M) : Fol N ws r := fun i => Int.dvd_trans d (h i)
theorem odd_cancel {a b : Int} (h : 2 ∣ a * b) (ha : ¬ 2 ∣ a) : 2 ∣ b := by
  have e : a = 2 * (a / 2) + 1 := by omega
  rw [e, Int.add_mul, Int.one_mul, Int.mul_assoc] at h
  have := Int.dvd_mul_right 2 (a / 2 * b)
  exact (Int.dvd_iff_dvd_of_dvd_add h).mp this
theorem dvd_sub_sum {N a b c : Int} (h1 : N ∣ a) (h2 : N ∣ a - b) : N ∣ b := by
  have := Int.dvd_sub h1 h2
  rwa [show a - (a - b) = b by omega] at this
theorem back_one {ws : List Int} {n : Nat} (hn : n ≤ ws.length) (he : ∀ b, n ≤ b → b < ws.length → 2 ∣ ws.getD b 0) (ho : 0 < n → ¬ 2 ∣ ws.getD (n - 1) 0) {r : Nat → Int} (hr : Fol 2 ws r) {far : Nat} (hz : ∀ i, far ≤ i → 2 ∣ r i) (i : Nat) (hi : ws.length - n ≤ i) : 2 ∣ r i := by
  by_cases c0 : n = 0
  · have h := hr (i - ws.length)
    rw [show i - ws.length + ws.length = i by omega] at h
    have h2 : (2 : Int) ∣ sumN ws.length fun b => ws.getD b 0 * r (i - 1 - b) := sumN_dvd fun b hb => Int.dvd_mul_of_dvd_left (he b (by omega) hb)
    have := Int.dvd_add h h2
    rwa [Int.sub_add_cancel] at this
  · suffices h : ∀ m i, ws.length - n ≤ i → far ≤ i + m → 2 ∣ r i from h far i hi (by omega)
    intro m
    induction m with
    | zero => intro i _ h; exact hz i h
    | succ m ih =>
      intro i h1 h2
      have h := hr (i - (ws.length - n))
      rw [show i - (ws.length - n) + ws.length = i + n by omega] at h
      have h3 : (2 : Int) ∣ sumN ws.length fun b => ws.getD b 0 * r (i + n - 1 - b) := dvd_sub_sum (c := 0) (ih (i + n) (by omega) (by omega)) h
      have h4 : (2 : Int) ∣ sumN n fun b => ws.getD b 0 * r (i + n - 1 - b) := by
        have e := sumN_split n (ws.length - n) fun b => ws.getD b 0 * r (i + n - 1 - b)
        rw [show n + (ws.length - n) = ws.length by omega] at e
        rw [e] at h3
        have h5 : (2 : Int) ∣ sumN (ws.length - n) fun b => ws.getD (n + b) 0 * r (i + n - 1 - (n + b)) := sumN_dvd fun b hb => Int.dvd_mul_of_dvd_left (he (n + b) (by omega) (by omega))
        have := Int.dvd_sub h3 h5
        rwa [Int.add_sub_cancel] at this
      obtain ⟨t, rfl⟩ : ∃ t, n = t + 1 := ⟨n - 1, by omega⟩
      rw [sumN] at h4
      have h5 : (2 : Int) ∣ sumN t fun b => ws.getD b 0 * r (i + (t + 1) - 1 - b) := sumN_dvd fun b hb => Int.dvd_mul_of_dvd_right (ih _ (by omega) (by omega))
      have h6 := Int.dvd_sub h4 h5
      rw [show ∀ a b : Int, a + b - a = b from fun a b => by omega, show i + (t + 1) - 1 - t = i by omega] at h6
      exact odd_cancel h6 (ho (by omega))
/-- what is nothing from somewhere on is nothing from so many places on -/
theorem back_zero {ws : List Int} {n : Nat} (hn : n ≤ ws.length) (he : ∀ b, n ≤ b → b < ws.length → 2 ∣ ws.getD b 0) (ho : 0 < n → ¬ 2 ∣ ws.getD (n - 1) 0) : ∀ (d : Nat) {r : Nat → Int}, Fol (2 ^ d) ws r → ∀ {far : Nat}, (∀ i, far ≤ i → (2 ^ d : Int) ∣ r i) → ∀ i, (ws.length - n) * d ≤ i → (2 ^ d : Int) ∣ r i
  | 0, r, _, far, _, i, _ => by rw [Int.pow_zero]; exact Int.one_dvd _
  | d + 1, r, hr, far, hz, i, hi => by
    have e2 : (2 : Int) ^ (d + 1) = 2 ^ d * 2 := Int.pow_succ _ _
    have dd : (2 ^ d : Int) ∣ 2 ^ (d + 1) := by rw [e2]; exact Int.dvd_mul_right _ _
    have ih := back_zero hn he ho d (hr.mono dd) (far := far) fun i h => Int.dvd_trans dd (hz i h)
    have hp : (2 ^ d : Int) ≠ 0 := Int.ne_of_gt (Int.pow_pos (by decide))
    have er : ∀ i, (ws.length - n) * d ≤ i → r i = 2 ^ d * (r i / 2 ^ d) := fun i h => (Int.mul_ediv_cancel' (ih i h)).symm
    have hi2 : (ws.length - n) * d + (ws.length - n) ≤ i := by rw [Nat.mul_succ] at hi; exact hi
    generalize hk : (ws.length - n) * d = kd at *
    have h1 := back_one hn he ho (r := fun j => r (kd + j) / 2 ^ d) (far := far) (fun j => by
      have h := hr (kd + j)
      have e3 : r (kd + j + ws.length) - sumN ws.length (fun b => ws.getD b 0 * r (kd + j + ws.length - 1 - b)) = 2 ^ d * (r (kd + (j + ws.length)) / 2 ^ d - sumN ws.length fun b => ws.getD b 0 * (r (kd + (j + ws.length - 1 - b)) / 2 ^ d)) := by
        rw [Int.mul_sub, ← er _ (by omega), ← sumN_mul, ← Nat.add_assoc]
        congr 1
        refine sumN_congr fun b hb => ?_
        rw [show kd + j + ws.length - 1 - b = kd + (j + ws.length - 1 - b) by omega, Int.mul_left_comm, ← er _ (by omega)]
      rw [e3, e2] at h
      exact Int.dvd_of_mul_dvd_mul_left hp h) (fun j hj => by
      have h := hz (kd + j) (by omega)
      rw [er (kd + j) (by omega), e2] at h
      exact Int.dvd_of_mul_dvd_mul_left hp h) (i - kd) (by omega)
    rw [show kd + (i - kd) = i by omega] at h1
    rw [er i (by omega), e2]
    exact Int.mul_dvd_mul_left _ h1
/-- an order of nothing, and all behind is nothing -/
theorem fol_zero {N : Int} {ws : List Int} {r : Nat → Int} (hr : Fol N ws r) {p : Nat} (hz : ∀ t, t < ws.length → N ∣ r (p + t)) : ∀ i, p ≤ i → N ∣ r i := by
  suffices h : ∀ m i, p ≤ i → i < p + m → N ∣ r i from fun i hi => h (i + 1) i hi (by omega)
  intro m
  induction m with
  | zero => intro i _ _; omega
  | succ m ih =>
    intro i h1 h2
    by_cases c : i < p + ws.length
    · have := hz (i - p) (by omega)
      rwa [show p + (i - p) = i by omega] at this
    · have h := hr (i - ws.length)
      rw [show i - ws.length + ws.length = i by omega] at h
      have h3 : N ∣ sumN ws.length fun b => ws.getD b 0 * r (i - 1 - b) := sumN_dvd fun b hb => Int.dvd_mul_of_dvd_right (ih _ (by omega) (by omega))
      have := Int.dvd_add h h3
      rwa [Int.sub_add_cancel] at this
theorem zero_back {d : Nat} {ws : List Int} {r : Nat → Int} (hr : Fol (2 ^ d) ws r) {p : Nat} (hz : ∀ t, t < ws.length → (2 ^ d : Int) ∣ r (p + t)) (i : Nat) (hi : ws.length * d ≤ i) : (2 ^ d : Int) ∣ r i := by
  obtain ⟨n, h1, h2, h3⟩ := odd_top ws
  exact back_zero h1 h2 h3 d hr (fol_zero hr hz) i (Nat.le_trans (Nat.mul_le_mul_right d (by omega)) hi)
/-! two rows by two rules: their difference follows the product -/
theorem fol_sub {N : Int} {w u : List Int} {r s : Nat → Int} (hr : Fol N w r) (hs : Fol N u s) : Fol N (prodL (asP w) (asP u)) fun i => r i - s i := by
  rw [fol_asP]
  intro i
  have e : (sumN (asP (prodL (asP w) (asP u))).length fun p => (asP (prodL (asP w) (asP u))).getD p 0 * (r (i + p) - s (i + p))) = (sumN (asP (prodL (asP w) (asP u))).length fun p => (asP (prodL (asP w) (asP u))).getD p 0 * r (i + p)) - sumN (asP (prodL (asP w) (asP u))).length fun p => (asP (prodL (asP w) (asP u))).getD p 0 * s (i + p) := by
    rw [Int.sub_eq_add_neg, ← Int.neg_one_mul, ← sumN_mul, ← sumN_add]
    refine sumN_congr fun p _ => ?_
    rw [Int.neg_one_mul, ← Int.sub_eq_add_neg, Int.mul_sub]
  rw [e]
  refine Int.dvd_sub (fol_prod hr i) ?_
  rw [prod_tell]
  have e2 : (sumN (asP u).length fun t => (asP u).getD t 0 * sumN (asP w).length fun k => (asP w).getD k 0 * s (i + t + k)) = sumN (asP w).length fun k => (asP w).getD k 0 * sumN (asP u).length fun t => (asP u).getD t 0 * s (i + k + t) := by
    have e3 : (sumN (asP u).length fun t => (asP u).getD t 0 * sumN (asP w).length fun k => (asP w).getD k 0 * s (i + t + k)) = sumN (asP u).length fun t => sumN (asP w).length fun k => (asP u).getD t 0 * ((asP w).getD k 0 * s (i + t + k)) := sumN_congr fun t _ => (sumN_mul _ _ _).symm
    rw [e3, sumN_swap]
    refine sumN_congr fun k _ => ?_
    rw [← sumN_mul]
    refine sumN_congr fun t _ => ?_
    rw [Int.mul_left_comm, show i + t + k = i + k + t by omega]
  rw [e2]
  exact sumN_dvd fun k _ => Int.dvd_mul_of_dvd_right (fol_asP.mp hs (i + k))
/-- samples that differ by a multiple are alike -/
theorem alike_of {h x y : Int} (hx : -h ≤ x ∧ x < h) (hy : -h ≤ y ∧ y < h) (hd : 2 * h ∣ x - y) : x = y := by
  obtain ⟨c, hc⟩ := hd
  have h1 := hx.1; have h2 := hx.2; have h3 := hy.1; have h4 := hy.2
  rcases Int.lt_trichotomy c 0 with k | k | k
  · have : 2 * h * c ≤ 2 * h * (-1) := Int.mul_le_mul_of_nonneg_left (by omega) (by omega)
    omega
  · rw [k] at hc; omega
  · have : 2 * h * 1 ≤ 2 * h * c := Int.mul_le_mul_of_nonneg_left (by omega) (by omega)
    omega
section
variable {d : Nat} {w u fs ss : List Int} (d1 : 1 ≤ d) (lf : fs.length = w.length) (ls : ss.length = u.length) (rf : ∀ x ∈ fs, -(2 ^ (d - 1) : Int) ≤ x ∧ x < 2 ^ (d - 1)) (rs : ∀ x ∈ ss, -(2 ^ (d - 1) : Int) ≤ x ∧ x < 2 ^ (d - 1))
include d1 lf ls rf rs
theorem unl_dvd (i : Nat) : goR (2 ^ (d - 1)) w fs i = goR (2 ^ (d - 1)) u ss i ↔ (2 ^ d : Int) ∣ goR (2 ^ (d - 1)) w fs i - goR (2 ^ (d - 1)) u ss i := by
  constructor
  · intro h; rw [h, Int.sub_self]; exact Int.dvd_zero _
  · intro h
    rw [← two_half d1] at h
    exact alike_of (goR_range (half_pos d) rf i) (goR_range (half_pos d) rs i) h
theorem unl_fol : Fol (2 ^ d) (prodL (asP w) (asP u)) fun i => goR (2 ^ (d - 1)) w fs i - goR (2 ^ (d - 1)) u ss i := by
  rw [← two_half d1]
  exact fol_sub (goR_fol (half_pos d) lf) (goR_fol (half_pos d) ls)
theorem unl_len : (prodL (asP w) (asP u)).length = w.length + u.length := by rw [prodL_len, asP_len, asP_len]; omega
/-- as many as both have alike: all behind are alike -/
theorem unl_on {p : Nat} (h : ∀ t, t < w.length + u.length → goR (2 ^ (d - 1)) w fs (p + t) = goR (2 ^ (d - 1)) u ss (p + t)) (i : Nat) (hi : p ≤ i) : goR (2 ^ (d - 1)) w fs i = goR (2 ^ (d - 1)) u ss i :=
  (unl_dvd d1 lf ls rf rs i).mpr (fol_zero (unl_fol d1 lf ls rf rs) (p := p) (fun t ht => (unl_dvd d1 lf ls rf rs _).mp (h t (by rw [unl_len d1 lf ls rf rs] at ht; exact ht))) i hi)
/-- and all from the depth times that on -/
theorem unl_back {p : Nat} (h : ∀ t, t < w.length + u.length → goR (2 ^ (d - 1)) w fs (p + t) = goR (2 ^ (d - 1)) u ss (p + t)) (i : Nat) (hi : d * (w.length + u.length) ≤ i) : goR (2 ^ (d - 1)) w fs i = goR (2 ^ (d - 1)) u ss i :=
  (unl_dvd d1 lf ls rf rs i).mpr (zero_back (unl_fol d1 lf ls rf rs) (p := p) (fun t ht => (unl_dvd d1 lf ls rf rs _).mp (h t (by rw [unl_len d1 lf ls rf rs] at ht; exact ht))) i (by rw [unl_len d1 lf ls rf rs, Nat.mul_comm]; exact hi))
end
end My

namespace My
open PySem PySem.Spec PyProof.Rows L2 Pre
/-! ### two rows, in a program: what is asked of them; unlike places -/
def EE (H : Hp) (E : XK) (C : Addr) (v : V) : Prop := ∀ H' dd, Same H H' → H' dd = none → E (.ref C) (some dd) (upd H' dd (.xd [("value", v)]))
theorem EE.same {H H1 : Hp} {E : XK} {C : Addr} {v : V} (s : Same H H1) (h : EE H E C v) : EE H1 E C v := fun H' dd s' nd => h H' dd (s.trans s') nd
/-- the arguments behind a depth -/
def Asked4 (K : PySem.W.Frag) (CW CR : Addr) (d : Nat) (H : Hp) (E : XK) (u x u2 x2 : V) (G : List Int → List Int → List Int → List Int → Prop) : Prop :=
  (∃ (a : Addr) (ws : List Int), u = .ref a ∧ H a = some (.lst (ws.map V.int)) ∧ GoodR ws ∧
    ((∃ (b : Addr) (fs : List Int), x = .ref b ∧ H b = some (.lst (fs.map V.int)) ∧ Smp d fs ∧ fs.length = ws.length ∧
      ((∃ (a2 : Addr) (us : List Int), u2 = .ref a2 ∧ H a2 = some (.lst (us.map V.int)) ∧ GoodR us ∧
        ((∃ (b2 : Addr) (ss : List Int), x2 = .ref b2 ∧ H b2 = some (.lst (ss.map V.int)) ∧ Smp d ss ∧ ss.length = us.length ∧ G ws fs us ss) ∨
         (BadF K H d us.length x2 ∧ EE H E CR x2))) ∨
       (BadR K H u2 ∧ EE H E CW u2))) ∨
     (BadF K H d ws.length x ∧ EE H E CR x))) ∨
  (BadR K H u ∧ EE H E CW u)
theorem Asked4.imp {K : PySem.W.Frag} {CW CR : Addr} {d : Nat} {H : Hp} {E : XK} {u x u2 x2 : V} {G G' : List Int → List Int → List Int → List Int → Prop}
    (k : ∀ a ws b fs a2 us b2 ss, u = .ref a → x = .ref b → u2 = .ref a2 → x2 = .ref b2 → H a = some (.lst (ws.map V.int)) → H b = some (.lst (fs.map V.int)) → H a2 = some (.lst (us.map V.int)) → H b2 = some (.lst (ss.map V.int)) → GoodR ws → GoodR us → Smp d fs → Smp d ss → fs.length = ws.length → ss.length = us.length → G ws fs us ss → G' ws fs us ss)
    (h : Asked4 K CW CR d H E u x u2 x2 G) : Asked4 K CW CR d H E u x u2 x2 G' := by
  rcases h with ⟨a, ws, e1, ha, gw, ⟨b, fs, e2, hb, sf, lf, ⟨a2, us, e3, ha2, gu, ⟨b2, ss, e4, hb2, ss', ls, hg⟩ | h⟩ | h⟩ | h⟩ | h
  · exact .inl ⟨a, ws, e1, ha, gw, .inl ⟨b, fs, e2, hb, sf, lf, .inl ⟨a2, us, e3, ha2, gu, .inl ⟨b2, ss, e4, hb2, ss', ls, k a ws b fs a2 us b2 ss e1 e2 e3 e4 ha hb ha2 hb2 gw gu sf ss' lf ls hg⟩⟩⟩⟩
  · exact .inl ⟨a, ws, e1, ha, gw, .inl ⟨b, fs, e2, hb, sf, lf, .inl ⟨a2, us, e3, ha2, gu, .inr h⟩⟩⟩
  · exact .inl ⟨a, ws, e1, ha, gw, .inl ⟨b, fs, e2, hb, sf, lf, .inr h⟩⟩
  · exact .inl ⟨a, ws, e1, ha, gw, .inr h⟩
  · exact .inr h
def Asked5 (K : PySem.W.Frag) (CD CW CR : Addr) (H : Hp) (E : XK) (v u x u2 x2 : V) (G : Nat → List Int → List Int → List Int → List Int → Prop) : Prop :=
  (∃ d : Nat, v = .int d ∧ 1 ≤ d ∧ d ≤ 24 ∧ Asked4 K CW CR d H E u x u2 x2 (G d)) ∨ (NumV K H v 1 (some 24) false ∧ EE H E CD v)
/-- unlike places -/
def unlL (n : Nat) (f g : Nat → Int) : List Nat := (List.range n).filter fun i => decide (g i ≠ f i)
theorem unlL_len (n : Nat) (f g : Nat → Int) : (unlL n f g).length ≤ n := Nat.le_trans (List.length_filter_le _ _) (by rw [List.length_range]; exact Nat.le_refl n)
def nV (l : List Nat) : List V := l.map fun i : Nat => V.int (i : Int)
theorem nV_len (l : List Nat) : (nV l).length = l.length := List.length_map _
theorem nV_ints (l : List Nat) : nV l = (l.map fun i : Nat => (i : Int)).map V.int := by unfold nV; rw [List.map_map]; rfl
theorem sel_if {α β : Type} (l : List α) (p : α → Bool) (f : α → β) : (l.map fun x => if p x = true then some (f x) else none).filterMap id = (l.filter p).map f := by
  induction l with
  | nil => rfl
  | cons x r ih =>
    rw [List.map_cons, List.filterMap_cons, List.filter_cons]
    by_cases c : p x = true
    · rw [if_pos c, if_pos c, List.map_cons, ← ih]; rfl
    · rw [if_neg c, if_neg c, ← ih]; rfl
/-- the first one, or None -/
def headV : List Nat → V
  | [] => .non
  | i :: _ => .int (i : Int)
theorem headV_at (l : List Nat) : (nV l ++ [V.non])[0]? = some (headV l) := by
  cases l with
  | nil => rfl
  | cons i r => rfl
/-- the place behind the last one below c; None if there is one beyond -/
def alkV (l : List Nat) (c : Nat) : V := match l.getLast? with
  | none => .int 0
  | some i => if c ≤ i then .non else .int ((i : Int) + 1)
theorem last_at {l : List Nat} {i : Nat} (h : l.getLast? = some i) : atI (nV l) (-1) = some (.int (i : Int)) := by
  have hl : l ≠ [] := by intro e; rw [e] at h; cases h
  have h0 : 0 < l.length := List.length_pos_iff.mpr hl
  rw [List.getLast?_eq_getElem?] at h
  unfold atI ixN
  rw [if_neg (by decide), nV_len, if_pos (by omega)]
  show (nV l)[(-1 + (l.length : Int)).toNat]? = _
  rw [show (-1 + (l.length : Int)).toNat = l.length - 1 by omega]
  unfold nV
  rw [List.getElem?_map, h]
  rfl
local macro_rules | `(tactic| walk_at "go") => `(tactic| repeat (first | (with_reducible first | refine iteT ?_ | refine iteF ?_ | refine iteNtt ?_ | refine iteNff ?_ | refine iteET (by omega) ?_ | refine iteEF (by omega) ?_ | refine iteENT (by omega) ?_ | refine iteENF (by omega) ?_ | refine iteDT (by omega) ?_ | refine iteDF (by omega) ?_ | refine iteNT (by omega) ?_ | refine iteNF (by omega) ?_) | refine ⟨_, rfl, ?_⟩ | refine ⟨_, _, rfl, rfl, ?_⟩ | refine ⟨_, _, rfl, ?_⟩ | refine ⟨rfl, ?_⟩ | refine .inl ⟨_, rfl, ?_⟩ | refine .inr ⟨_, rfl, ?_⟩))
local macro_rules | `(tactic| walk_at "b") => `(tactic| try dsimp (config := { proj := false, iota := false, eta := false, zeta := false }) only)
section
variable {P : Program} {w : World} {K : PySem.W.Frag} {mg : Str → Option Value} {base : Heap} [pf : Sup.PF P fileS]
def sp_both_rows (K : PySem.W.Frag) (CD CW CR : Addr) : Sp := fun vs H Q E => ∃ (v u x u2 x2 : V) (m : Nat), vs = [v, u, x, u2, x2, .int m] ∧ 1 ≤ m ∧ m ≤ 25 ∧
  Asked5 K CD CW CR H E v u x u2 x2 fun d ws fs us ss => ∀ H' t p q, Same H H' → H' t = some (.tup [.ref p, .ref q]) → H' p = some (.lst (rowZ (m * (ws.length + us.length)) (goR (2 ^ (d - 1)) ws fs))) → H' q = some (.lst (rowZ (m * (ws.length + us.length)) (goR (2 ^ (d - 1)) us ss))) → Q (.ref t) H'
theorem G_both_rows (T : Top K mg) : FnOk P w K mg base (L2.CX P w) 6 T.f_both_rows T.fd_both_rows ["depth", "one", "firsts", "other", "seconds", "many"] (sp_both_rows K T.C_InvalidDepth T.C_InvalidWeights T.C_InvalidRow) := by
  refine T.F_both_rows.ok (CX := L2.CX P w) sc_both_rows (fun vs H Q E h => by obtain ⟨v, u, x, u2, x2, m, rfl, _⟩ := h; rfl) (fun cdv A outer s H vs Q E hr h => ?_)
  obtain ⟨v, u, x, u2, x2, m, rfl, m1, m2, h⟩ := h
  refine ⟨_, (pss_cons (ps_expr (pe_call (G_check_depth (P := P) T) (hr.mono (by decide)) (by rfl) T.g_check_depth T.F_check_depth.kp T.b0_check_depth T.v0_check_depth (passes_call (takes_of rfl rfl rfl rfl) (fun _ _ _ _ h => h)) (pa_cons (pv 0) pa_nil)))
  (pss_cons (ps_expr (pe_call (G_check_rule (P := P) T) (hr.mono (by decide)) (by rfl) T.g_check_rule T.F_check_rule.kp T.b_check_rule .nil (passes_call (takes_of rfl rfl rfl rfl) (fun _ _ _ _ h => h)) (pa_cons (pv 1) pa_nil)))
  (pss_cons (ps_expr (pe_call (G_check_firsts (P := P) T) (hr.mono (by decide)) (by rfl) T.g_check_firsts T.F_check_firsts.kp T.b_check_firsts .nil (passes_call (takes_of rfl rfl rfl rfl) (fun _ _ _ _ h => h)) (pa_cons (pv 0) (pa_cons (pv 1) (pa_cons (pv 2) pa_nil)))))
  (pss_cons (ps_expr (pe_call (G_check_rule (P := P) T) (hr.mono (by decide)) (by rfl) T.g_check_rule T.F_check_rule.kp T.b_check_rule .nil (passes_call (takes_of rfl rfl rfl rfl) (fun _ _ _ _ h => h)) (pa_cons (pv 3) pa_nil)))
  (pss_cons (ps_expr (pe_call (G_check_firsts (P := P) T) (hr.mono (by decide)) (by rfl) T.g_check_firsts T.F_check_firsts.kp T.b_check_firsts .nil (passes_call (takes_of rfl rfl rfl rfl) (fun _ _ _ _ h => h)) (pa_cons (pv 0) (pa_cons (pv 3) (pa_cons (pv 4) pa_nil)))))
  (pss_cons (ps_set (i := 6) sc_both_rows.nd rfl (by first | exact Or.inl rfl | exact Or.inr rfl) (pe_op op_mul (pv 5) (pe_op op_add (pe_callB (k_len K rfl) (by rfl) T.n_len (by decide +kernel) (pa_cons (pv 1) pa_nil)) (pe_callB (k_len K rfl) (by rfl) T.n_len (by decide +kernel) (pa_cons (pv 3) pa_nil)))))
  (pss_one (ps_ret (pe_tup (pa_cons (pe_call (G_gone_on (P := P) T) (hr.mono (by decide)) (by rfl) T.g_gone_on T.F_gone_on.kp T.b_gone_on .nil pass0 (pa_cons (pv 0) (pa_cons (pv 1) (pa_cons (pv 2) (pa_cons (pv 6) pa_nil))))) (pa_cons (pe_call (G_gone_on (P := P) T) (hr.mono (by decide)) (by rfl) T.g_gone_on T.F_gone_on.kp T.b_gone_on .nil pass0 (pa_cons (pv 0) (pa_cons (pv 3) (pa_cons (pv 4) (pa_cons (pv 6) pa_nil))))) pa_nil))))))))))), ?_⟩
  have dok : ∀ {H : Hp} {d : Nat}, 1 ≤ d → d ≤ 24 → NumV K H (.int (d : Int)) 1 (some 24) true := fun d1 d2 => .inl ⟨_, rfl, (decide_eq_true ⟨by omega, fun j e => by cases e; omega⟩).symm⟩
  rcases h with ⟨d, rfl, d1, d2, ⟨a, ws, rfl, ha, gw, ⟨b, fs, rfl, hb, sf, lf, ⟨a2, us, rfl, ha2, gu, ⟨b2, ss, rfl, hb2, ss', ls, q⟩ | ⟨hx2, q⟩⟩ | ⟨hu2, q⟩⟩ | ⟨hx, q⟩⟩ | ⟨hu, q⟩⟩ | ⟨hv, q⟩
  · have hws := gw.1
    have hus := gu.1
    refine ⟨_, rfl, _, 24, true, rfl, dok d1 d2, fun _ => ?_, fun z => nomatch z⟩
    refine ⟨_, rfl, _, rfl, .inl ⟨a, ws, rfl, ha, gw, fun H1 s1 => ?_⟩⟩
    refine ⟨_, rfl, _, rfl, _, rfl, d, a, ws, _, rfl, d1, d2, s1 _ _ ha, .inl ⟨b, fs, rfl, s1 _ _ hb, sf, lf, by omega, fun H2 s2 => ?_⟩⟩
    have s02 := s1.trans s2
    refine ⟨_, rfl, _, rfl, .inl ⟨a2, us, rfl, s02 _ _ ha2, gu, fun H3 s3 => ?_⟩⟩
    have s03 := s02.trans s3
    refine ⟨_, rfl, _, rfl, _, rfl, d, a2, us, _, rfl, d1, d2, s03 _ _ ha2, .inl ⟨b2, ss, rfl, s03 _ _ hb2, ss', ls, by omega, fun H4 s4 => ?_⟩⟩
    have s04 := s03.trans s4
    refine ⟨_, rfl, _, rfl, a, _, rfl, .inl (.inl (.inl (s04 _ _ ha))), _, rfl, a2, _, rfl, .inl (.inl (.inl (s04 _ _ ha2))), _, _, rfl, rfl, _, _, rfl, rfl, .inl ⟨by omega, by omega⟩, ?_⟩
    dsimp only
    have mm : m * (ws.length + us.length) ≤ 25 * 16 := Nat.mul_le_mul m2 (by omega)
    have mg : ws.length + us.length ≤ m * (ws.length + us.length) := Nat.le_mul_of_pos_left _ m1
    rw [List.length_map, List.length_map, ← Int.natCast_add, ← Int.natCast_mul]
    refine ⟨_, rfl, _, rfl, _, rfl, _, rfl, a, b, d, ws, fs, _, rfl, s04 _ _ ha, s04 _ _ hb, gw, lf, d1, d2, by omega, by omega, fun H5 p s5 _ hp => ?_⟩
    have s05 := s04.trans s5
    refine ⟨_, rfl, _, rfl, _, rfl, _, rfl, a2, b2, d, us, ss, _, rfl, s05 _ _ ha2, s05 _ _ hb2, gu, ls, d1, d2, by omega, by omega, fun H6 r s6 _ hr => ?_⟩
    refine ⟨(by show 2 ≤ sizeLine; decide), fun t nt => ?_⟩
    have s7 := same_upd (o := .tup [V.ref p, V.ref r]) nt
    exact q _ t p r ((s05.trans s6).trans s7) upd_same (s7 _ _ (s6 _ _ hp)) (s7 _ _ hr)
  · refine ⟨_, rfl, _, 24, true, rfl, dok d1 d2, fun _ => ?_, fun z => nomatch z⟩
    refine ⟨_, rfl, _, rfl, .inl ⟨a, ws, rfl, ha, gw, fun H1 s1 => ?_⟩⟩
    have hws := gw.1
    refine ⟨_, rfl, _, rfl, _, rfl, d, a, ws, _, rfl, d1, d2, s1 _ _ ha, .inl ⟨b, fs, rfl, s1 _ _ hb, sf, lf, by omega, fun H2 s2 => ?_⟩⟩
    have s02 := s1.trans s2
    refine ⟨_, rfl, _, rfl, .inl ⟨a2, us, rfl, s02 _ _ ha2, gu, fun H3 s3 => ?_⟩⟩
    have s03 := s02.trans s3
    exact ⟨_, rfl, _, rfl, _, rfl, d, a2, us, _, rfl, d1, d2, s03 _ _ ha2, .inr ⟨hx2.same s03, q.same s03⟩⟩
  · refine ⟨_, rfl, _, 24, true, rfl, dok d1 d2, fun _ => ?_, fun z => nomatch z⟩
    refine ⟨_, rfl, _, rfl, .inl ⟨a, ws, rfl, ha, gw, fun H1 s1 => ?_⟩⟩
    have hws := gw.1
    refine ⟨_, rfl, _, rfl, _, rfl, d, a, ws, _, rfl, d1, d2, s1 _ _ ha, .inl ⟨b, fs, rfl, s1 _ _ hb, sf, lf, by omega, fun H2 s2 => ?_⟩⟩
    have s02 := s1.trans s2
    exact ⟨_, rfl, _, rfl, .inr ⟨hu2.same s02, q.same s02⟩⟩
  · refine ⟨_, rfl, _, 24, true, rfl, dok d1 d2, fun _ => ?_, fun z => nomatch z⟩
    refine ⟨_, rfl, _, rfl, .inl ⟨a, ws, rfl, ha, gw, fun H1 s1 => ?_⟩⟩
    exact ⟨_, rfl, _, rfl, _, rfl, d, a, ws, _, rfl, d1, d2, s1 _ _ ha, .inr ⟨hx.same s1, q.same s1⟩⟩
  · refine ⟨_, rfl, _, 24, true, rfl, dok d1 d2, fun _ => ?_, fun z => nomatch z⟩
    exact ⟨_, rfl, _, rfl, .inr ⟨hu, q⟩⟩
  · exact ⟨_, rfl, _, 24, false, rfl, hv, (fun z => nomatch z), fun _ dd nd => q H dd (Same.refl _) nd⟩
def sp_unlike_spots : Sp := fun vs H Q _ => ∃ (a b : Addr) (n : Nat) (f g : Nat → Int), vs = [.ref a, .ref b] ∧ H a = some (.lst (rowZ n f)) ∧ H b = some (.lst (rowZ n g)) ∧ n ≤ 900 ∧ ∀ H' p, Same H H' → H p = none → H' p = some (.lst (nV (unlL n f g))) → Q (.ref p) H'
theorem G_unlike_spots (T : Top K mg) : FnOk P w K mg base CX0 1 T.f_unlike_spots T.fd_unlike_spots ["one", "other"] sp_unlike_spots := by
  refine T.F_unlike_spots.ok sc_unlike_spots (fun vs H Q E h => by obtain ⟨a, b, n, f, g, rfl, _⟩ := h; rfl) (fun cdv A outer s H vs Q E hr h => ?_)
  obtain ⟨a, b, n, f, g, rfl, ha, hb, hn, q⟩ := h
  refine ⟨_, PSs.nox (pss_one (ps_ret (pe_lc (own := [("spot", 2), ("sample", 3)]) (g := gTup K 2 (gCons (gName 2) (gCons (gName 3) (gNil)))) (by rfl) sc_unlike_spots.nd (k_piE K rfl (by rfl) T.n_enumerate (pa_cons (pv 0) pa_nil)) (blkOk_by (own := [("spot", 2), ("sample", 3)]) (N := N_unlike_spots) (sc := defScope s_unlike_spots) (by decide +kernel)) (fun _ _ _ _ _ => (k_pgT K rfl (by rfl) (pgs_cons (pg_name (i := 2) sc_unlike_spots.nd rfl (by first | exact Or.inl rfl | exact Or.inr rfl)) (pgs_cons (pg_name (i := 3) sc_unlike_spots.nd rfl (by first | exact Or.inl rfl | exact Or.inr rfl)) pgs_nil)))) (fun _ _ _ _ _ => (pts_one (pt_cmpR op_ne (pe_ix (k_ixL K rfl) (pv 1) (pv 2) (fun _ _ => rfl)) (pv 3) (nomark _)))) (fun _ _ _ _ _ => (pv 2))))), ?_⟩
  refine ⟨_, rfl, a, _, rfl, .inl (.inl ha), fun D nD => ?_⟩
  refine lc_dW (walk_enum (K := K) (a := a) (xs := rowZ n f)) (Has.nil (H := H)) ((List.range n).map fun i => if (decide (g i ≠ f i)) = true then some (PyData.int (i : Int)) else none) nD (by rw [List.length_map, List.length_range, rowZ_len]) (by rw [rowZ_len]; exact small4 (by omega)) (fun H' s => .inl (.inl (s _ _ ha))) ?_ ?_
  · rintro i o H0 x H' hi ho s0 hS ⟨T1, y1, z1, rfl, nT, rfl, ex, ez⟩ Qt qt
    dsimp only at ex ez
    cases ex
    rw [rowZ_len] at hi
    rw [rowZ_get f hi] at ez
    cases ez
    rw [List.getElem?_map, List.getElem?_range hi] at ho
    cases ho
    dsimp only at qt
    have sT := same_upd (o := .tup [V.int (i : Int), V.int (f i)]) nT
    refine ⟨T1, _, rfl, .inl (.inl upd_same), rfl, _, _, rfl, _, _, rfl, rfl, rfl, ?_⟩
    refine ⟨_, rfl, _, rfl, b, _, _, _, rfl, rfl, .inl (.inl (sT _ _ (s0 _ _ hb))), atI_nat (rowZ_get g hi), _, rfl, rfl, _, rfl, ?_⟩
    by_cases c : g i = f i
    · rw [decide_eq_false (fun z => z c)] at qt
      exact iteENF c (qt _ _ sT trivial)
    · rw [decide_eq_true c] at qt
      exact iteENT c ⟨_, rfl, qt _ _ sT (.int _)⟩
  · intro H8 s8 hD8 hd8
    rw [rs_nil, sel_if] at hd8
    obtain ⟨_, e, h8⟩ := Dt.intsE (ns := (unlL n f g).map fun i : Nat => (i : Int)) (by unfold rowD unlL; rw [List.map_map]; exact hd8)
    cases e
    rw [← nV_ints] at h8
    exact q _ D s8 nD h8
def sp_first_parted (K : PySem.W.Frag) (CD CW CR : Addr) : Sp := fun vs H Q E => ∃ (v u x u2 x2 : V), vs = [v, u, x, u2, x2] ∧
  Asked5 K CD CW CR H E v u x u2 x2 fun d ws fs us ss => ∀ H', Same H H' → Q (headV (unlL (ws.length + us.length) (goR (2 ^ (d - 1)) ws fs) (goR (2 ^ (d - 1)) us ss))) H'
theorem G_first_parted (T : Top K mg) : FnOk P w K mg base (L2.CX P w) 7 T.f_first_parted T.fd_first_parted ["depth", "one", "firsts", "other", "seconds"] (sp_first_parted K T.C_InvalidDepth T.C_InvalidWeights T.C_InvalidRow) := by
  refine T.F_first_parted.ok (CX := L2.CX P w) sc_first_parted (fun vs H Q E h => by obtain ⟨v, u, x, u2, x2, rfl, _⟩ := h; rfl) (fun cdv A outer s H vs Q E hr h => ?_)
  obtain ⟨v, u, x, u2, x2, rfl, h⟩ := h
  refine ⟨_, (pss_cons (ps_set (i := 5) sc_first_parted.nd rfl (by first | exact Or.inl rfl | exact Or.inr rfl) (pe_call (G_both_rows (P := P) T) (hr.mono (by decide)) (by rfl) T.g_both_rows T.F_both_rows.kp T.b_both_rows .nil (passes_call (takes_of rfl rfl rfl rfl) (fun _ _ _ _ h => h)) (pa_cons (pv 0) (pa_cons (pv 1) (pa_cons (pv 2) (pa_cons (pv 3) (pa_cons (pv 4) (pa_cons pe_int pa_nil))))))))
  (pss_one (ps_ret (pe_ix (k_ixL K rfl) (pe_op op_cat (pe_call (G_unlike_spots (P := P) T) (hr.mono (by decide)) (by rfl) T.g_unlike_spots T.F_unlike_spots.kp T.b_unlike_spots .nil pass0 (pa_cons (pe_ix (k_ixT K rfl) (pv 5) pe_int (fun _ _ => rfl)) (pa_cons (pe_ix (k_ixT K rfl) (pv 5) pe_int (fun _ _ => rfl)) pa_nil))) (pe_lst (pa_cons pe_non pa_nil))) pe_int (fun _ _ => rfl))))), ?_⟩
  refine ⟨_, rfl, _, rfl, _, rfl, _, rfl, _, rfl, v, u, x, u2, x2, 1, rfl, by decide, by decide, ?_⟩
  rcases h with ⟨d, rfl, d1, d2, h⟩ | h
  · refine .inl ⟨d, rfl, d1, d2, h.imp fun a ws b fs a2 us b2 ss _ _ _ _ _ _ _ _ gw gu sf ss' lf ls q H1 t p r s1 ht hp hr => ?_⟩
    have hws := gw.1
    have hus := gu.1
    rw [Nat.one_mul] at hp hr
    refine ⟨_, rfl, t, _, _, _, rfl, rfl, .inl (.inl ht), atI_nat (j := 0) rfl, _, rfl, t, _, _, _, rfl, rfl, .inl (.inl ht), atI_nat (j := 1) rfl, p, r, _, _, _, rfl, hp, hr, by omega, fun H2 l s2 _ hl => ?_⟩
    refine ⟨(by show 1 ≤ sizeLine; decide), fun z nz => ?_⟩
    obtain ⟨H3, e3, s3, hz⟩ := fresh (.lst [V.non]) nz
    rw [e3]
    refine ⟨l, z, _, _, rfl, rfl, s3 _ _ hl, hz, ?_, fun c nc => ?_⟩
    · have := unlL_len (ws.length + us.length) (goR (2 ^ (d - 1)) ws fs) (goR (2 ^ (d - 1)) us ss)
      rw [nV_len, sizeLine_eq]
      show _ + 1 ≤ _
      omega
    · exact ⟨c, _, _, _, rfl, rfl, .inl (.inl upd_same), atI_nat (headV_at _), q _ (((s1.trans s2).trans s3).trans (same_upd nc))⟩
  · exact .inr h
def sp_alike_from (K : PySem.W.Frag) (CD CW CR : Addr) : Sp := fun vs H Q E => ∃ (v u x u2 x2 : V), vs = [v, u, x, u2, x2] ∧
  Asked5 K CD CW CR H E v u x u2 x2 fun d ws fs us ss => ∀ H', Same H H' → Q (alkV (unlL ((d + 1) * (ws.length + us.length)) (goR (2 ^ (d - 1)) ws fs) (goR (2 ^ (d - 1)) us ss)) (d * (ws.length + us.length))) H'
theorem G_alike_from (T : Top K mg) : FnOk P w K mg base (L2.CX P w) 7 T.f_alike_from T.fd_alike_from ["depth", "one", "firsts", "other", "seconds"] (sp_alike_from K T.C_InvalidDepth T.C_InvalidWeights T.C_InvalidRow) := by
  refine T.F_alike_from.ok (CX := L2.CX P w) sc_alike_from (fun vs H Q E h => by obtain ⟨v, u, x, u2, x2, rfl, _⟩ := h; rfl) (fun cdv A outer s H vs Q E hr h => ?_)
  obtain ⟨v, u, x, u2, x2, rfl, h⟩ := h
  refine ⟨_, (pss_cons (ps_expr (pe_call (G_check_depth (P := P) T) (hr.mono (by decide)) (by rfl) T.g_check_depth T.F_check_depth.kp T.b0_check_depth T.v0_check_depth (passes_call (takes_of rfl rfl rfl rfl) (fun _ _ _ _ h => h)) (pa_cons (pv 0) pa_nil)))
  (pss_cons (ps_set (i := 5) sc_alike_from.nd rfl (by first | exact Or.inl rfl | exact Or.inr rfl) (pe_call (G_both_rows (P := P) T) (hr.mono (by decide)) (by rfl) T.g_both_rows T.F_both_rows.kp T.b_both_rows .nil (passes_call (takes_of rfl rfl rfl rfl) (fun _ _ _ _ h => h)) (pa_cons (pv 0) (pa_cons (pv 1) (pa_cons (pv 2) (pa_cons (pv 3) (pa_cons (pv 4) (pa_cons (pe_op op_add (pv 0) pe_int) pa_nil))))))))
  (pss_cons (ps_set (i := 6) sc_alike_from.nd rfl (by first | exact Or.inl rfl | exact Or.inr rfl) (pe_call (G_unlike_spots (P := P) T) (hr.mono (by decide)) (by rfl) T.g_unlike_spots T.F_unlike_spots.kp T.b_unlike_spots .nil pass0 (pa_cons (pe_ix (k_ixT K rfl) (pv 5) pe_int (fun _ _ => rfl)) (pa_cons (pe_ix (k_ixT K rfl) (pv 5) pe_int (fun _ _ => rfl)) pa_nil))))
  (pss_cons (ps_set (i := 7) sc_alike_from.nd rfl (by first | exact Or.inl rfl | exact Or.inr rfl) (pe_ifExp (pt_cmpR (k_neD K rfl hr.units) (pv 6) (pe_lst pa_nil) (nomark _)) (pe_ix (k_ixL K rfl) (pv 6) (pe_un un_neg pe_int) (fun _ _ => rfl)) (pe_un un_neg pe_int)))
  (pss_one (ps_ret (pe_ifExp (pt_cmpR op_ge (pv 7) (pe_op op_mul (pv 0) (pe_op op_add (pe_callB (k_len K rfl) (by rfl) T.n_len (by decide +kernel) (pa_cons (pv 1) pa_nil)) (pe_callB (k_len K rfl) (by rfl) T.n_len (by decide +kernel) (pa_cons (pv 3) pa_nil)))) (nomark _)) pe_non (pe_op op_add (pv 7) pe_int)))))))), ?_⟩
  have dok : ∀ {H : Hp} {d : Nat}, 1 ≤ d → d ≤ 24 → NumV K H (.int (d : Int)) 1 (some 24) true := fun d1 d2 => .inl ⟨_, rfl, (decide_eq_true ⟨by omega, fun j e => by cases e; omega⟩).symm⟩
  rcases h with ⟨d, rfl, d1, d2, h⟩ | ⟨hv, q⟩
  · refine ⟨_, rfl, _, 24, true, rfl, dok d1 d2, fun _ => ?_, fun z => nomatch z⟩
    refine ⟨_, rfl, _, rfl, _, rfl, _, rfl, _, rfl, _, rfl, _, _, rfl, rfl, _, u, x, u2, x2, d + 1, rfl, by omega, by omega, .inl ⟨d, rfl, d1, d2, h.imp fun a ws b fs a2 us b2 ss e1 e2 e3 e4 ha hb ha2 hb2 gw gu sf ss' lf ls q H1 t p r s1 ht hp hr => ?_⟩⟩
    subst e1 e2 e3 e4
    have hws := gw.1
    have hus := gu.1
    have mm : (d + 1) * (ws.length + us.length) ≤ 25 * 16 := Nat.mul_le_mul (by omega) (by omega)
    refine ⟨_, rfl, t, _, _, _, rfl, rfl, .inl (.inl ht), atI_nat (j := 0) rfl, _, rfl, t, _, _, _, rfl, rfl, .inl (.inl ht), atI_nat (j := 1) rfl, p, r, _, _, _, rfl, hp, hr, by omega, fun H2 l s2 _ hl => ?_⟩
    have q : ∀ H', Same H H' → Q (alkV (unlL ((d + 1) * (ws.length + us.length)) (goR (2 ^ (d - 1)) ws fs) (goR (2 ^ (d - 1)) us ss)) (d * (ws.length + us.length))) H' := q
    generalize el : unlL ((d + 1) * (ws.length + us.length)) (goR (2 ^ (d - 1)) ws fs) (goR (2 ^ (d - 1)) us ss) = L at *
    have s02 := s1.trans s2
    refine ⟨_, rfl, (by show 0 ≤ sizeLine; decide), fun z nz => ?_⟩
    obtain ⟨H3, e3, s3, hz⟩ := fresh (.lst ([] : List V)) nz
    rw [e3]
    have hl3 := s3 _ _ hl
    rw [nV_ints] at hl3
    have s03 := s02.trans s3
    refine neD_lst (ms := []) (.inl (.inl hl3)) (.inl (.inl hz)) ⟨_, rfl, ?_⟩
    have hq := q _ s03
    unfold alkV at hq
    cases eL : L.getLast? with
    | none =>
      rw [eL] at hq
      obtain rfl := List.getLast?_eq_none_iff.mp eL
      refine iteNF rfl ⟨_, rfl, ?_⟩
      refine ⟨_, rfl, _, rfl, _, rfl, a, _, rfl, .inl (.inl (.inl (s03 _ _ ha))), _, rfl, a2, _, rfl, .inl (.inl (.inl (s03 _ _ ha2))), _, _, rfl, rfl, _, _, rfl, rfl, .inl ⟨by omega, by omega⟩, _, _, rfl, rfl, _, rfl, ?_⟩
      dsimp only
      rw [List.length_map, List.length_map, ← Int.natCast_add, ← Int.natCast_mul]
      exact iteDF (by omega) ⟨_, rfl, _, _, rfl, rfl, hq⟩
    | some i =>
      rw [eL] at hq
      dsimp only at hq
      have hi := last_at eL
      have hne : L ≠ [] := fun e => by rw [e] at eL; cases eL
      refine iteNT (fun e => hne (List.map_eq_nil_iff.mp e)) ?_
      refine ⟨_, rfl, _, rfl, l, _, _, _, rfl, rfl, .inl (.inl (s3 _ _ hl)), hi, ?_⟩
      refine ⟨_, rfl, _, rfl, _, rfl, a, _, rfl, .inl (.inl (.inl (s03 _ _ ha))), _, rfl, a2, _, rfl, .inl (.inl (.inl (s03 _ _ ha2))), _, _, rfl, rfl, _, _, rfl, rfl, .inl ⟨by omega, by omega⟩, _, _, rfl, rfl, _, rfl, ?_⟩
      dsimp only
      rw [List.length_map, List.length_map, ← Int.natCast_add, ← Int.natCast_mul]
      by_cases c : d * (ws.length + us.length) ≤ i
      · rw [if_pos c] at hq
        exact iteDT (by omega) hq
      · rw [if_neg c] at hq
        exact iteDF (by omega) ⟨_, rfl, _, _, rfl, rfl, hq⟩
  · exact ⟨_, rfl, _, 24, false, rfl, hv, (fun z => nomatch z), fun _ dd nd => q H dd (Same.refl _) nd⟩
end
end My

namespace My
open PySem PySem.Spec PyProof.Rows L2 Pre
/-! ### the law of rules: small rules, products -/
theorem cut_last (xs : List V) : cutV xs none (some (-1)) = xs.take (xs.length - 1) := by
  unfold cutV
  have e : HT.sIx xs.length xs.length (some (-1)) = xs.length - 1 := by
    show (if (-1 : Int) < 0 then ((-1 : Int) + ((xs.length : Nat) : Int)).toNat else min (-1 : Int).toNat xs.length) = _
    rw [if_pos (by decide)]
    omega
  rw [e, HT.sIx_none, List.drop_zero, Nat.sub_zero]
local macro_rules | `(tactic| walk_at "go") => `(tactic| repeat (first | (with_reducible first | refine iteT ?_ | refine iteF ?_ | refine iteNtt ?_ | refine iteNff ?_ | refine iteET (by omega) ?_ | refine iteEF (by omega) ?_ | refine iteENT (by omega) ?_ | refine iteENF (by omega) ?_ | refine iteDT (by omega) ?_ | refine iteDF (by omega) ?_ | refine iteNT (by omega) ?_ | refine iteNF (by omega) ?_) | refine ⟨_, rfl, ?_⟩ | refine ⟨_, _, rfl, rfl, ?_⟩ | refine ⟨_, _, rfl, ?_⟩ | refine ⟨rfl, ?_⟩ | refine .inl ⟨_, rfl, ?_⟩ | refine .inr ⟨_, rfl, ?_⟩))
local macro_rules | `(tactic| walk_at "b") => `(tactic| try dsimp (config := { proj := false, iota := false, eta := false, zeta := false }) only)
section
variable {P : Program} {w : World} {K : PySem.W.Frag} {mg : Str → Option Value} {base : Heap} [pf : Sup.PF P fileS]
def sp_law_small : Sp := fun vs H Q _ => ∃ (g : Addr) (n m : Nat), vs = [.ref g, .int m] ∧ GenAt H g n ∧ n ≤ 10 ^ 9 ∧ m ≤ 10 ∧ ∀ (H' : Hp) (p : Addr) (ys : List Int), But g H H' → H p = none → p ≠ g → GenAt H' g (n + 1000) → H' p = some (.lst (ys.map V.int)) → ys.length = m → (∀ y ∈ ys, y.natAbs ≤ 3) → Q (.ref p) H'
theorem G_law_small (T : Top K mg) : FnOk P w K mg base CX0 3 T.f_law_small T.fd_law_small ["_law_generator_here", "_law_many"] sp_law_small := by
  refine T.F_law_small.ok sc_law_small (fun vs H Q E h => by obtain ⟨g, n, m, rfl, _⟩ := h; rfl) (fun cdv A outer s H vs Q E hr h => ?_)
  obtain ⟨g, n, m, rfl, hG, hn, hm, q⟩ := h
  refine ⟨_, PSs.nox (pss_one (ps_ret (pe_lc (own := [("_law_turn", 2)]) (g := gName 2) (tt := tYes) (by rfl) sc_law_small.nd (pi_range1 (by rfl) T.n_range (pa_cons (pv 1) pa_nil)) (blkOk_by (own := [("_law_turn", 2)]) (N := N_law_small) (sc := defScope s_law_small) (by decide +kernel)) (fun _ _ _ _ _ => (pg_name (i := 2) sc_law_small.nd rfl (by first | exact Or.inl rfl | exact Or.inr rfl))) (fun _ _ _ _ _ => pts_nil) (fun _ _ _ _ _ => (pe_op op_sub (pe_call (G_law_random (P := P) T) (hr.mono (by decide)) (by rfl) T.g_law_random T.F_law_random.kp T.b_law_random .nil pass0 (pa_cons (pv 0) (pa_cons pe_int pa_nil))) pe_int))))), ?_⟩
  refine ⟨_, rfl, _, rfl, by omega, by omega, fun D nD => ?_⟩
  rw [Int.toNat_natCast]
  refine lc_drawR (lo := 0) (n := m) g n 100 (fun y => y.natAbs ≤ 3) nD hG (small4 (by omega)) (fun x => rfl) ?_ ?_
  · intro i H' hi b gi Qt qt
    refine ⟨_, rfl, g, _, _, rfl, gi, by omega, by decide, by decide +kernel, fun x H2 x0 x1 g2 b2 => ?_⟩
    refine ⟨_, _, rfl, rfl, ?_⟩
    exact qt _ _ (by omega) b2 (g2.mono (by omega))
  · intro H' ys b g1 hD hl hP
    exact q H' D ys b nD (hG.ne nD) (g1.mono (by omega)) hD hl hP
def sp_law_product : Sp := fun vs H Q _ => ∃ (a b : Addr) (ws us : List Int), vs = [.ref a, .ref b] ∧ H a = some (.lst (ws.map V.int)) ∧ H b = some (.lst (us.map V.int)) ∧ ws.length ≤ 4 ∧ us.length ≤ 4 ∧ (∀ x ∈ ws, x.natAbs ≤ 3) ∧ (∀ x ∈ us, x.natAbs ≤ 3) ∧ ∀ H' p, Same H H' → H p = none → H' p = some (.lst ((prodL (asP ws) (asP us)).map V.int)) → Q (.ref p) H'
theorem G_law_product (T : Top K mg) : FnOk P w K mg base CX0 1 T.f_law_product T.fd_law_product ["_law_one", "_law_other"] sp_law_product := by
  refine T.F_law_product.ok sc_law_product (fun vs H Q E h => by obtain ⟨a, b, ws, us, rfl, _⟩ := h; rfl) (fun cdv A outer s H vs Q E hr h => ?_)
  obtain ⟨a, b, ws, us, rfl, ha, hb, hw, hu, bw, bu, q⟩ := h
  refine ⟨_, PSs.nox (pss_cons (ps_par (by rfl) sc_law_product.nd (i := 4) (j := 5) rfl rfl (by decide) rfl rfl (pa_cons (pe_op op_cat (pe_lc (own := [("_law_weight", 8)]) (g := gName 8) (tt := tYes) (by rfl) sc_law_product.nd (k_piL K rfl (pe_revL (pv 0))) (blkOk_by (own := [("_law_weight", 8)]) (N := N_law_product) (sc := defScope s_law_product) (by decide +kernel)) (fun _ _ _ _ _ => (pg_name (i := 8) sc_law_product.nd rfl (by first | exact Or.inl rfl | exact Or.inr rfl))) (fun _ _ _ _ _ => pts_nil) (fun _ _ _ _ _ => (pe_un un_neg (pv 8)))) (pe_lst (pa_cons pe_int pa_nil))) (pa_cons (pe_op op_cat (pe_lc (own := [("_law_weight", 8)]) (g := gName 8) (tt := tYes) (by rfl) sc_law_product.nd (k_piL K rfl (pe_revL (pv 1))) (blkOk_by (own := [("_law_weight", 8)]) (N := N_law_product) (sc := defScope s_law_product) (by decide +kernel)) (fun _ _ _ _ _ => (pg_name (i := 8) sc_law_product.nd rfl (by first | exact Or.inl rfl | exact Or.inr rfl))) (fun _ _ _ _ _ => pts_nil) (fun _ _ _ _ _ => (pe_un un_neg (pv 8)))) (pe_lst (pa_cons pe_int pa_nil))) pa_nil)) (by rfl))
  (pss_cons (ps_set (i := 2) sc_law_product.nd rfl (by first | exact Or.inl rfl | exact Or.inr rfl) (pe_op op_rep (pe_lst (pa_cons pe_int pa_nil)) (pe_op op_sub (pe_op op_add (pe_callB (k_len K rfl) (by rfl) T.n_len (by decide +kernel) (pa_cons (pv 4) pa_nil)) (pe_callB (k_len K rfl) (by rfl) T.n_len (by decide +kernel) (pa_cons (pv 5) pa_nil))) pe_int)))
  (pss_cons (ps_for PassesOwn.never rfl (pi_range1 (by rfl) T.n_range (pa_cons (pe_callB (k_len K rfl) (by rfl) T.n_len (by decide +kernel) (pa_cons (pv 4) pa_nil)) pa_nil)) (pg_name (i := 3) sc_law_product.nd rfl (by first | exact Or.inl rfl | exact Or.inr rfl))
    (pss_one (ps_for PassesOwn.never rfl (pi_range1 (by rfl) T.n_range (pa_cons (pe_callB (k_len K rfl) (by rfl) T.n_len (by decide +kernel) (pa_cons (pv 5) pa_nil)) pa_nil)) (pg_name (i := 6) sc_law_product.nd rfl (by first | exact Or.inl rfl | exact Or.inr rfl))
    (pss_one (ps_asg (pe_op op_add (pe_ix (k_ixL K rfl) (pv 2) (pe_op op_add (pv 3) (pv 6)) (fun _ _ => rfl)) (pe_op op_mul (pe_ix (k_ixL K rfl) (pv 4) (pv 3) (fun _ _ => rfl)) (pe_ix (k_ixL K rfl) (pv 5) (pv 6) (fun _ _ => rfl)))) (pg_sub (pv 2) (pe_op op_add (pv 3) (pv 6)) set_list))))))
  (pss_one (ps_ret (pe_revL (pe_lc (own := [("_law_number", 7)]) (g := gName 7) (tt := tYes) (by rfl) sc_law_product.nd (k_piL K rfl (pe_slice (k_slL K rfl) (pv 2) po_none (po_some (pe_un un_neg pe_int)))) (blkOk_by (own := [("_law_number", 7)]) (N := N_law_product) (sc := defScope s_law_product) (by decide +kernel)) (fun _ _ _ _ _ => (pg_name (i := 7) sc_law_product.nd rfl (by first | exact Or.inl rfl | exact Or.inr rfl))) (fun _ _ _ _ _ => pts_nil) (fun _ _ _ _ _ => (pe_un un_neg (pv 7)))))))))), ?_⟩
  refine ⟨_, rfl, a, _, rfl, .inl (.inl ha), fun p1 np1 => ?_⟩
  obtain ⟨H1, e1, s1, hp1⟩ := fresh (.lst ((ws.map V.int).reverse)) np1
  rw [e1]
  rw [← List.map_reverse] at hp1
  refine ⟨p1, rfl, ⟨_, .inl (.inl hp1)⟩, fun D nD => ?_⟩
  refine lc_mapL (K := K) (xs := ws.reverse.map V.int) (ws.reverse.map fun x => V.int (-x)) nD (.inl (.inl hp1)) (by rw [List.length_map, List.length_map]) (by rw [List.length_map, List.length_reverse]; exact small4 (by omega)) (fun x => rfl) ?_ ?_
  · intro i x y H' hx hy s Qt qt
    obtain ⟨n, hn, rfl⟩ := int_at hx
    rw [List.getElem?_map, hn] at hy
    cases hy
    exact ⟨_, rfl, _, rfl, qt _ (Same.refl _)⟩
  · intro H2 s2 hD
    refine ⟨(by show 1 ≤ sizeLine; decide), fun p2 np2 => ?_⟩
    obtain ⟨H3, e3, s3, hp2⟩ := fresh (.lst [V.int 1]) np2
    rw [e3]
    refine ⟨D, p2, _, _, rfl, rfl, s3 _ _ hD, hp2, by rw [List.length_map, List.length_reverse, sizeLine_eq]; show _ + 1 ≤ _; omega, fun A nA => ?_⟩
    have eP : ∀ us : List Int, (us.reverse.map fun x => V.int (-x)) ++ [V.int 1] = (asP us).map V.int := fun us => by
      unfold asP
      rw [List.map_append, List.map_map]
      rfl
    rw [eP]
    obtain ⟨H4, e4, s4, hA⟩ := fresh (.lst ((asP ws).map V.int)) nA
    rw [e4]
    have s04 := ((s1.trans s2).trans s3).trans s4
    refine ⟨_, rfl, b, _, rfl, .inl (.inl (s04 _ _ hb)), fun p3 np3 => ?_⟩
    obtain ⟨H5, e5, s5, hp3⟩ := fresh (.lst ((us.map V.int).reverse)) np3
    rw [e5]
    rw [← List.map_reverse] at hp3
    refine ⟨p3, rfl, ⟨_, .inl (.inl hp3)⟩, fun D2 nD2 => ?_⟩
    refine lc_mapL (K := K) (xs := us.reverse.map V.int) (us.reverse.map fun x => V.int (-x)) nD2 (.inl (.inl hp3)) (by rw [List.length_map, List.length_map]) (by rw [List.length_map, List.length_reverse]; exact small4 (by omega)) (fun x => rfl) ?_ ?_
    · intro i x y H' hx hy s Qt qt
      obtain ⟨n, hn, rfl⟩ := int_at hx
      rw [List.getElem?_map, hn] at hy
      cases hy
      exact ⟨_, rfl, _, rfl, qt _ (Same.refl _)⟩
    · intro H6 s6 hD2
      refine ⟨(by show 1 ≤ sizeLine; decide), fun p4 np4 => ?_⟩
      obtain ⟨H7, e7, s7, hp4⟩ := fresh (.lst [V.int 1]) np4
      rw [e7]
      refine ⟨D2, p4, _, _, rfl, rfl, s7 _ _ hD2, hp4, by rw [List.length_map, List.length_reverse, sizeLine_eq]; show _ + 1 ≤ _; omega, fun B nB => ?_⟩
      rw [eP]
      obtain ⟨H8, e8, s8, hB⟩ := fresh (.lst ((asP us).map V.int)) nB
      rw [e8]
      have hA8 := s8 _ _ (s7 _ _ (s6 _ _ (s5 _ _ hA)))
      have s08 := s04.trans (((s5.trans s6).trans s7).trans s8)
      have lA : (asP ws).length = ws.length + 1 := asP_len ws
      have lB : (asP us).length = us.length + 1 := asP_len us
      have bA := asP_small (by decide) bw
      have bB := asP_small (by decide) bu
      generalize asP ws = As at *
      generalize asP us = Bs at *
      refine ⟨_, _, rfl, ?_⟩
      refine ⟨(by show 1 ≤ sizeLine; decide), fun p5 np5 => ?_⟩
      obtain ⟨H9, e9, s9, hp5⟩ := fresh (.lst [V.int 0]) np5
      rw [e9]
      refine ⟨_, rfl, A, _, rfl, .inl (.inl (.inl (s9 _ _ hA8))), _, rfl, B, _, rfl, .inl (.inl (.inl (s9 _ _ hB))), _, _, rfl, rfl, _, _, rfl, rfl, ?_⟩
      dsimp only
      rw [List.length_map, List.length_map, show ((As.length : Int) + (Bs.length : Int) - 1) = ((As.length + Bs.length - 1 : Nat) : Int) by omega]
      refine ⟨p5, _, _, rfl, rfl, hp5, by omega, by omega, by rw [Int.toNat_natCast, sizeLine_eq]; show 1 * _ ≤ _; omega, fun F nF => ?_⟩
      rw [Int.toNat_natCast, rep_int]
      have e0 : (List.replicate (As.length + Bs.length - 1) (0 : Int)).map V.int = rowZ (As.length + Bs.length - 1) (cvF As Bs 0 0) := rowZ_ext (by rw [List.length_map, List.length_replicate]) fun i hi => by rw [List.getElem?_map, List.getElem?_replicate, if_pos hi, cvF_nil]; rfl
      rw [e0]
      obtain ⟨H10, e10, s10, hF⟩ := fresh (.lst (rowZ (As.length + Bs.length - 1) (cvF As Bs 0 0))) nF
      rw [e10]
      have s010 := (s08.trans s9).trans s10
      have s810 := s9.trans s10
      have nF8 : H8 F = none := s9.free nF
      have nFH : H F = none := s08.free nF8
      refine ⟨_, rfl, A, _, rfl, .inl (.inl (.inl (s810 _ _ hA8))), ?_⟩
      rw [List.length_map]
      refine ⟨_, rfl, by omega, by omega, ?_⟩
      rw [Int.toNat_natCast]
      refine for_range (lo := 0) (n := As.length) (fun i σ HA => ∃ v3 v6 : Option V, σ = [some (.ref a), some (.ref b), some (.ref F), v3, some (.ref A), some (.ref B), v6, none, none] ∧ Same H8 HA ∧ HA F = some (.lst (rowZ (As.length + Bs.length - 1) (cvF As Bs i 0)))) ⟨none, none, rfl, s810, hF⟩ ?_ ?_
      · rintro i σ HA hi ⟨v3, v6, rfl, sA, hFA⟩
        rw [Int.zero_add]
        refine ⟨_, rfl, B, _, rfl, .inl (.inl (.inl (sA _ _ hB))), ?_⟩
        rw [List.length_map]
        refine ⟨_, rfl, by omega, by omega, ?_⟩
        rw [Int.toNat_natCast]
        refine for_range (lo := 0) (n := Bs.length) (fun j σ HB => ∃ v6 : Option V, σ = [some (.ref a), some (.ref b), some (.ref F), some (.int (i : Nat)), some (.ref A), some (.ref B), v6, none, none] ∧ Same H8 HB ∧ HB F = some (.lst (rowZ (As.length + Bs.length - 1) (cvF As Bs i j)))) ⟨v6, rfl, sA, hFA⟩ ?_ ?_
        · rintro j σ HB hj ⟨v6, rfl, sB, hFB⟩
          rw [Int.zero_add]
          have hij : i + j < As.length + Bs.length - 1 := by omega
          have hAi : (As.map V.int)[i]? = some (.int (As.getD i 0)) := by rw [ints_rowZ]; exact rowZ_get (fun p => As.getD p 0) hi
          have hBj : (Bs.map V.int)[j]? = some (.int (Bs.getD j 0)) := by rw [ints_rowZ]; exact rowZ_get (fun p => Bs.getD p 0) hj
          have sAi := small_getD bA i
          refine ⟨_, rfl, _, rfl, _, rfl, _, _, rfl, rfl, F, _, _, _, rfl, rfl, .inl (.inl hFB), by rw [← Int.natCast_add]; exact atI_nat (rowZ_get _ hij), ?_⟩
          refine ⟨_, rfl, _, rfl, A, _, _, _, rfl, rfl, .inl (.inl (sB _ _ hA8)), atI_nat hAi, _, rfl, _, rfl, B, _, _, _, rfl, rfl, .inl (.inl (sB _ _ hB)), atI_nat hBj, _, _, rfl, rfl, .inl ⟨by omega, by omega⟩, _, _, rfl, rfl, ?_⟩
          refine ⟨_, rfl, _, rfl, _, rfl, _, _, rfl, rfl, F, _, _, i + j, rfl, rfl, hFB, ?_, ?_⟩
          · unfold ixN
            rw [if_pos (by omega), if_pos (by rw [rowZ_len]; omega), ← Int.natCast_add]
            rfl
          · refine ⟨_, rfl, same_over nF8 sB, ?_⟩
            rw [upd_same]
            dsimp only
            rw [rowZ_set (g := cvF As Bs i (j + 1)) hij (by rw [cvF_step, if_pos rfl]) fun k hk => by rw [cvF_step, if_neg hk]]
        · rintro σ HB ⟨v6, rfl, sB, hFB⟩
          refine ⟨_, _, rfl, sB, ?_⟩
          rw [hFB]
          exact congrArg (fun l => some (HO.lst l)) (rowZ_congr fun k _ => cvF_next As Bs i k)
      · rintro σ HA ⟨v3, v6, rfl, sA, hFA⟩
        refine ⟨_, rfl, _, rfl, _, rfl, F, _, rfl, .inl (.inl hFA), fun p6 np6 => ?_⟩
        rw [cut_last, rowZ_len, rowZ_take (by omega)]
        obtain ⟨H11, e11, s11, hp6⟩ := fresh (.lst (rowZ (As.length + Bs.length - 1 - 1) (cvF As Bs As.length 0))) np6
        rw [e11]
        refine ⟨p6, rfl, ⟨_, .inl (.inl hp6)⟩, fun D3 nD3 => ?_⟩
        refine lc_mapL (K := K) (xs := rowZ (As.length + Bs.length - 1 - 1) (cvF As Bs As.length 0)) (rowZ (As.length + Bs.length - 1 - 1) fun k => -cvF As Bs As.length 0 k) nD3 (.inl (.inl hp6)) (by rw [rowZ_len, rowZ_len]) (by rw [rowZ_len]; exact small4 (by omega)) (fun x => rfl) ?_ ?_
        · intro k x y H' hx hy s Qt qt
          have hk : k < As.length + Bs.length - 1 - 1 := by
            have := (List.getElem?_eq_some_iff.mp hx).1
            rw [rowZ_len] at this
            exact this
          rw [rowZ_get _ hk] at hx hy
          cases hx
          cases hy
          exact ⟨_, rfl, _, rfl, qt _ (Same.refl _)⟩
        · intro H12 s12 hD3
          refine ⟨D3, _, rfl, .inl (.inl hD3), fun p7 np7 => ?_⟩
          have sfin := s08.trans ((sA.trans s11).trans s12)
          refine q _ p7 (sfin.trans (same_upd np7)) (sfin.free np7) ?_
          rw [upd_same]
          unfold prodL prodF
          rw [List.map_reverse, show As.length + Bs.length - 2 = As.length + Bs.length - 1 - 1 by omega, rowZ_ints]
end
end My

namespace My
open PySem PySem.Spec PyProof.Rows L2 Pre
/-! ### rows alike for ever: what is refused -/
local macro_rules | `(tactic| walk_at "go") => `(tactic| repeat (first | (with_reducible first | refine iteT ?_ | refine iteF ?_ | refine iteNtt ?_ | refine iteNff ?_ | refine iteET (by omega) ?_ | refine iteEF (by omega) ?_ | refine iteENT (by omega) ?_ | refine iteENF (by omega) ?_ | refine iteDT (by omega) ?_ | refine iteDF (by omega) ?_ | refine iteNT (by omega) ?_ | refine iteNF (by omega) ?_) | refine ⟨_, rfl, ?_⟩ | refine ⟨_, _, rfl, rfl, ?_⟩ | refine ⟨_, _, rfl, ?_⟩ | refine ⟨rfl, ?_⟩ | refine .inl ⟨_, rfl, ?_⟩ | refine .inr ⟨_, rfl, ?_⟩))
local macro_rules | `(tactic| walk_at "b") => `(tactic| try dsimp (config := { proj := false, iota := false, eta := false, zeta := false }) only)
section
variable {P : Program} {w : World} {K : PySem.W.Frag} {mg : Str → Option Value} {base : Heap} [pf : Sup.PF P fileS]
/-- which of five is wrong first -/
def Bad5 (K : PySem.W.Frag) (H : Hp) (x y z u v bv : V) (tag : Str) : Prop :=
  (tag = "depth" ∧ bv = x ∧ NumV K H x 1 (some 24) false) ∨ ∃ d : Nat, x = .int d ∧ 1 ≤ d ∧ d ≤ 24 ∧
    ((tag = "weights" ∧ bv = y ∧ BadR K H y) ∨ ∃ (b : Addr) (ws : List Int), y = .ref b ∧ H b = some (.lst (ws.map V.int)) ∧ GoodR ws ∧
      ((tag = "row" ∧ bv = z ∧ BadF K H d ws.length z) ∨ ∃ (c : Addr) (fs : List Int), z = .ref c ∧ H c = some (.lst (fs.map V.int)) ∧ Smp d fs ∧ fs.length = ws.length ∧
        ((tag = "weights" ∧ bv = u ∧ BadR K H u) ∨ ∃ (b2 : Addr) (us : List Int), u = .ref b2 ∧ H b2 = some (.lst (us.map V.int)) ∧ GoodR us ∧ tag = "row" ∧ bv = v ∧ BadF K H d us.length v)))
def sp_law_caught (K : PySem.W.Frag) : Sp := fun vs H Q _ => ∃ (k : Nat) (a : Addr) (x y z u v bv : V) (tag t : Str), vs = [.int k, .ref a] ∧ H a = some (.lst [x, y, z, u, v]) ∧ Shw K H bv t ∧ k < 2 ∧ Bad5 K H x y z u v bv tag ∧
  ∀ H' p, Same H H' → H p = none → H' p = some (.lst [.str tag, .str t]) → Q (.ref p) H'
theorem G_law_caught (T : Top K mg) : FnG P w K mg base CX0 8 T.f_law_caught T.fd_law_caught ["_law_which", "_law_given"] (sp_law_caught K) := by
  refine FnG.body T.F_law_caught sc_law_caught (fun vs H Q E h => by obtain ⟨k, a, x, y, z, u, v, bv, tag, t, rfl, _⟩ := h; rfl) (fun cdv A outer s H vs Q E gd hr h => ?_)
  obtain ⟨k, a, x, y, z, u, v, bv, tag, t, rfl, ha, hS, hk, hc, q⟩ := h
  refine ⟨_, PSs.nox (pss_cons (ps_set (i := 2) sc_law_caught.nd rfl (by first | exact Or.inl rfl | exact Or.inr rfl) pe_non)
  (pss_cons (ps_try_keep (i := 3) rfl rfl rfl sc_law_caught.nd rfl rfl takes_none5 (fun W pn xe tk po => (pss_one (ps_if (pt_cmpR op_eq (pv 0) pe_int (nomark _))
    (pss_one (ps_expr (pe_callS (G_first_parted (P := P) T) (hr.mono (by decide)) (by rfl) T.g_first_parted T.F_first_parted.kp T.b_first_parted (fun σ => passAt tk σ) (pa_cons (pe_ix (k_ixL K rfl) (pv 1) pe_int (fun _ _ => rfl)) (pa_cons (pe_ix (k_ixL K rfl) (pv 1) pe_int (fun _ _ => rfl)) (pa_cons (pe_ix (k_ixL K rfl) (pv 1) pe_int (fun _ _ => rfl)) (pa_cons (pe_ix (k_ixL K rfl) (pv 1) pe_int (fun _ _ => rfl)) (pa_cons (pe_ix (k_ixL K rfl) (pv 1) pe_int (fun _ _ => rfl)) pa_nil))))))))
    (pss_one (ps_expr (pe_callS (G_alike_from (P := P) T) (hr.mono (by decide)) (by rfl) T.g_alike_from T.F_alike_from.kp T.b_alike_from (fun σ => passAt tk σ) (pa_cons (pe_ix (k_ixL K rfl) (pv 1) pe_int (fun _ _ => rfl)) (pa_cons (pe_ix (k_ixL K rfl) (pv 1) pe_int (fun _ _ => rfl)) (pa_cons (pe_ix (k_ixL K rfl) (pv 1) pe_int (fun _ _ => rfl)) (pa_cons (pe_ix (k_ixL K rfl) (pv 1) pe_int (fun _ _ => rfl)) (pa_cons (pe_ix (k_ixL K rfl) (pv 1) pe_int (fun _ _ => rfl)) pa_nil)))))))))))
    (HdsAs.cons ⟨by rfl, by decide, .inl T.gc_SoundError⟩ (fun a oe cls d pn hz hf => (pss_one (ps_set (i := 2) sc_law_caught.nd rfl (by first | exact Or.inl rfl | exact Or.inr rfl) (pv 3)))) HdsAs.nil))
  (pss_cons (ps_set (i := 4) sc_law_caught.nd rfl (by first | exact Or.inl rfl | exact Or.inr rfl) (pe_lst (pa_cons (pe_callB (k_isiE K rfl) (by rfl) T.n_isinstance (by decide +kernel) (pa_cons (pv 2) (pa_cons (pe_glob (v := .ref T.C_InvalidDepth) rfl T.gc_InvalidDepth rfl) pa_nil))) (pa_cons (pe_callB (k_isiE K rfl) (by rfl) T.n_isinstance (by decide +kernel) (pa_cons (pv 2) (pa_cons (pe_glob (v := .ref T.C_InvalidWeights) rfl T.gc_InvalidWeights rfl) pa_nil))) (pa_cons (pe_callB (k_isiE K rfl) (by rfl) T.n_isinstance (by decide +kernel) (pa_cons (pv 2) (pa_cons (pe_glob (v := .ref T.C_InvalidRow) rfl T.gc_InvalidRow rfl) pa_nil))) (pa_cons pe_bl pa_nil))))))
  (pss_one (ps_ret (pe_lst (pa_cons (pe_ix (k_ixL K rfl) (pe_lst (pa_cons pe_str (pa_cons pe_str (pa_cons pe_str (pa_cons pe_str pa_nil))))) (pe_bm PySem.F.plainAttrs_list PySem.F.slot_list_index PySem.F.type_list_index (k_index K rfl) (pv 4) (pa_cons pe_bl pa_nil)) (fun _ _ => rfl)) (pa_cons (pe_ifExp (pt_cmpR op_isN (pv 2) pe_non (nomark _)) pe_non (pe_callB (k_reprX K rfl gd (hu65 hr)) (by rfl) T.n_repr (by decide +kernel) (pa_cons (pe_xfK (pv 2)) pa_nil))) pa_nil)))))))), ?_⟩
  have no0 : ∀ (m : Nat) (z' : V), m < 0 → [V.bl true, .bl false, .bl false, .bl true][m]? = some z' → eqV z' (.bl true) = false := fun m z' h e =>
    match m, h, e with
    | m + 0, h, _ => absurd h (by omega)
  have no1 : ∀ (m : Nat) (z' : V), m < 1 → [V.bl false, .bl true, .bl false, .bl true][m]? = some z' → eqV z' (.bl true) = false := fun m z' h e =>
    match m, h, e with
    | 0, _, e => by cases e; rfl
    | m + 1, h, _ => absurd h (by omega)
  have no2 : ∀ (m : Nat) (z' : V), m < 2 → [V.bl false, .bl false, .bl true, .bl true][m]? = some z' → eqV z' (.bl true) = false := fun m z' h e =>
    match m, h, e with
    | 0, _, e => by cases e; rfl
    | 1, _, e => by cases e; rfl
    | m + 2, h, _ => absurd h (by omega)
  rcases (show k = 0 ∨ k = 1 by omega) with rfl | rfl
  · refine ⟨_, rfl, rfl, _, rfl, iteDT rfl ?_⟩
    refine ⟨_, rfl, a, _, _, _, rfl, rfl, .inl (.inl ha), atI_nat (j := 0) rfl, _, rfl, a, _, _, _, rfl, rfl, .inl (.inl ha), atI_nat (j := 1) rfl, _, rfl, a, _, _, _, rfl, rfl, .inl (.inl ha), atI_nat (j := 2) rfl, _, rfl, a, _, _, _, rfl, rfl, .inl (.inl ha), atI_nat (j := 3) rfl, _, rfl, a, _, _, _, rfl, rfl, .inl (.inl ha), atI_nat (j := 4) rfl, _, _, _, _, _, rfl, ?_⟩
    rcases hc with ⟨rfl, rfl, hx⟩ | ⟨d, rfl, d1, d2, ⟨rfl, rfl, hy⟩ | ⟨b, ws, rfl, hb, gw, ⟨rfl, rfl, hz⟩ | ⟨c, fs, rfl, hc, sf, lf, ⟨rfl, rfl, hu⟩ | ⟨b2, us, rfl, hb2, gu, rfl, rfl, hv⟩⟩⟩⟩
    · refine .inr ⟨hx, fun H1 dd s1 nd => ?_⟩
      refine ⟨true, T.em_InvalidDepth_SoundError, fun _ ae nae => ?_, fun z => nomatch z⟩
      have hdd : upd (upd H1 dd (.xd [(Str.ofString "value", bv)])) ae (ExK (.ref T.C_InvalidDepth) (some dd) ae) dd = some (.xd [(Str.ofString "value", bv)]) := by
        rw [upd_ne (ne_of_none upd_same nae), upd_same]
      have hae : upd (upd H1 dd (.xd [(Str.ofString "value", bv)])) ae (ExK (.ref T.C_InvalidDepth) (some dd) ae) ae = some (ExK (.ref T.C_InvalidDepth) (some dd) ae) := upd_same
      have s2 := (s1.trans (same_upd (o := .xd [(Str.ofString "value", bv)]) nd)).trans (same_upd (o := ExK (.ref T.C_InvalidDepth) (some dd) ae) nae)
      refine ⟨_, rfl, _, rfl, .inr ⟨ae, _, dd, _, _, _, _, rfl, hae, hdd, T.ei_InvalidDepth, .own _, T.ki_InvalidDepth_InvalidDepth, _, rfl, .inr ⟨ae, _, dd, _, _, _, _, rfl, hae, hdd, T.ei_InvalidDepth, .own _, T.ki_InvalidDepth_InvalidWeights, _, rfl, .inr ⟨ae, _, dd, _, _, _, _, rfl, hae, hdd, T.ei_InvalidDepth, .own _, T.ki_InvalidDepth_InvalidRow, (by show 4 ≤ sizeLine; decide), fun L3 nL3 => ?_⟩⟩⟩⟩
      obtain ⟨H5, e5, s5, hL3⟩ := fresh (.lst [V.bl true, .bl false, .bl false, .bl true]) nL3
      rw [e5]
      refine ⟨(by show 4 ≤ sizeLine; decide), fun M nM => ?_⟩
      obtain ⟨H6, e6, s6, hM⟩ := fresh (.lst [V.str (Str.ofString "depth"), .str (Str.ofString "weights"), .str (Str.ofString "row"), .str (Str.ofString "none")]) nM
      rw [e6]
      refine ⟨_, rfl, .inl ⟨rfl, _, .inl (.inl (s6 _ _ hL3))⟩, L3, _, .bl true, 0, .bl true, rfl, rfl, .inl (.inl (s6 _ _ hL3)), rfl, rfl, rfl, rfl, no0, M, _, _, _, rfl, rfl, .inl (.inl hM), atI_nat (j := 0) rfl, ?_⟩
      have s26 := s5.trans s6
      have s06 := s2.trans s26
      refine ⟨_, rfl, rfl, _, rfl, iteDF (fun z => nomatch z) ⟨_, rfl, ae, _, dd, _, bv, rfl, s26 _ _ hae, s26 _ _ hdd, T.er_InvalidDepth.xf, T.er_InvalidDepth.sup.nov, rfl, (hS.same s06).repr ⟨(by show 2 ≤ sizeLine; decide), fun p np => ?_⟩⟩⟩
      exact q _ p (s06.trans (same_upd np)) (s06.free np) upd_same
    · refine .inl ⟨d, rfl, d1, d2, .inr ⟨hy, fun H1 dd s1 nd => ?_⟩⟩
      refine ⟨true, T.em_InvalidWeights_SoundError, fun _ ae nae => ?_, fun z => nomatch z⟩
      have hdd : upd (upd H1 dd (.xd [(Str.ofString "value", bv)])) ae (ExK (.ref T.C_InvalidWeights) (some dd) ae) dd = some (.xd [(Str.ofString "value", bv)]) := by
        rw [upd_ne (ne_of_none upd_same nae), upd_same]
      have hae : upd (upd H1 dd (.xd [(Str.ofString "value", bv)])) ae (ExK (.ref T.C_InvalidWeights) (some dd) ae) ae = some (ExK (.ref T.C_InvalidWeights) (some dd) ae) := upd_same
      have s2 := (s1.trans (same_upd (o := .xd [(Str.ofString "value", bv)]) nd)).trans (same_upd (o := ExK (.ref T.C_InvalidWeights) (some dd) ae) nae)
      refine ⟨_, rfl, _, rfl, .inr ⟨ae, _, dd, _, _, _, _, rfl, hae, hdd, T.ei_InvalidWeights, .own _, T.ki_InvalidWeights_InvalidDepth, _, rfl, .inr ⟨ae, _, dd, _, _, _, _, rfl, hae, hdd, T.ei_InvalidWeights, .own _, T.ki_InvalidWeights_InvalidWeights, _, rfl, .inr ⟨ae, _, dd, _, _, _, _, rfl, hae, hdd, T.ei_InvalidWeights, .own _, T.ki_InvalidWeights_InvalidRow, (by show 4 ≤ sizeLine; decide), fun L3 nL3 => ?_⟩⟩⟩⟩
      obtain ⟨H5, e5, s5, hL3⟩ := fresh (.lst [V.bl false, .bl true, .bl false, .bl true]) nL3
      rw [e5]
      refine ⟨(by show 4 ≤ sizeLine; decide), fun M nM => ?_⟩
      obtain ⟨H6, e6, s6, hM⟩ := fresh (.lst [V.str (Str.ofString "depth"), .str (Str.ofString "weights"), .str (Str.ofString "row"), .str (Str.ofString "none")]) nM
      rw [e6]
      refine ⟨_, rfl, .inl ⟨rfl, _, .inl (.inl (s6 _ _ hL3))⟩, L3, _, .bl true, 1, .bl true, rfl, rfl, .inl (.inl (s6 _ _ hL3)), rfl, rfl, rfl, rfl, no1, M, _, _, _, rfl, rfl, .inl (.inl hM), atI_nat (j := 1) rfl, ?_⟩
      have s26 := s5.trans s6
      have s06 := s2.trans s26
      refine ⟨_, rfl, rfl, _, rfl, iteDF (fun z => nomatch z) ⟨_, rfl, ae, _, dd, _, bv, rfl, s26 _ _ hae, s26 _ _ hdd, T.er_InvalidWeights.xf, T.er_InvalidWeights.sup.nov, rfl, (hS.same s06).repr ⟨(by show 2 ≤ sizeLine; decide), fun p np => ?_⟩⟩⟩
      exact q _ p (s06.trans (same_upd np)) (s06.free np) upd_same
    · refine .inl ⟨d, rfl, d1, d2, .inl ⟨b, ws, rfl, hb, gw, .inr ⟨hz, fun H1 dd s1 nd => ?_⟩⟩⟩
      refine ⟨true, T.em_InvalidRow_SoundError, fun _ ae nae => ?_, fun z => nomatch z⟩
      have hdd : upd (upd H1 dd (.xd [(Str.ofString "value", bv)])) ae (ExK (.ref T.C_InvalidRow) (some dd) ae) dd = some (.xd [(Str.ofString "value", bv)]) := by
        rw [upd_ne (ne_of_none upd_same nae), upd_same]
      have hae : upd (upd H1 dd (.xd [(Str.ofString "value", bv)])) ae (ExK (.ref T.C_InvalidRow) (some dd) ae) ae = some (ExK (.ref T.C_InvalidRow) (some dd) ae) := upd_same
      have s2 := (s1.trans (same_upd (o := .xd [(Str.ofString "value", bv)]) nd)).trans (same_upd (o := ExK (.ref T.C_InvalidRow) (some dd) ae) nae)
      refine ⟨_, rfl, _, rfl, .inr ⟨ae, _, dd, _, _, _, _, rfl, hae, hdd, T.ei_InvalidRow, .own _, T.ki_InvalidRow_InvalidDepth, _, rfl, .inr ⟨ae, _, dd, _, _, _, _, rfl, hae, hdd, T.ei_InvalidRow, .own _, T.ki_InvalidRow_InvalidWeights, _, rfl, .inr ⟨ae, _, dd, _, _, _, _, rfl, hae, hdd, T.ei_InvalidRow, .own _, T.ki_InvalidRow_InvalidRow, (by show 4 ≤ sizeLine; decide), fun L3 nL3 => ?_⟩⟩⟩⟩
      obtain ⟨H5, e5, s5, hL3⟩ := fresh (.lst [V.bl false, .bl false, .bl true, .bl true]) nL3
      rw [e5]
      refine ⟨(by show 4 ≤ sizeLine; decide), fun M nM => ?_⟩
      obtain ⟨H6, e6, s6, hM⟩ := fresh (.lst [V.str (Str.ofString "depth"), .str (Str.ofString "weights"), .str (Str.ofString "row"), .str (Str.ofString "none")]) nM
      rw [e6]
      refine ⟨_, rfl, .inl ⟨rfl, _, .inl (.inl (s6 _ _ hL3))⟩, L3, _, .bl true, 2, .bl true, rfl, rfl, .inl (.inl (s6 _ _ hL3)), rfl, rfl, rfl, rfl, no2, M, _, _, _, rfl, rfl, .inl (.inl hM), atI_nat (j := 2) rfl, ?_⟩
      have s26 := s5.trans s6
      have s06 := s2.trans s26
      refine ⟨_, rfl, rfl, _, rfl, iteDF (fun z => nomatch z) ⟨_, rfl, ae, _, dd, _, bv, rfl, s26 _ _ hae, s26 _ _ hdd, T.er_InvalidRow.xf, T.er_InvalidRow.sup.nov, rfl, (hS.same s06).repr ⟨(by show 2 ≤ sizeLine; decide), fun p np => ?_⟩⟩⟩
      exact q _ p (s06.trans (same_upd np)) (s06.free np) upd_same
    · refine .inl ⟨d, rfl, d1, d2, .inl ⟨b, ws, rfl, hb, gw, .inl ⟨c, fs, rfl, hc, sf, lf, .inr ⟨hu, fun H1 dd s1 nd => ?_⟩⟩⟩⟩
      refine ⟨true, T.em_InvalidWeights_SoundError, fun _ ae nae => ?_, fun z => nomatch z⟩
      have hdd : upd (upd H1 dd (.xd [(Str.ofString "value", bv)])) ae (ExK (.ref T.C_InvalidWeights) (some dd) ae) dd = some (.xd [(Str.ofString "value", bv)]) := by
        rw [upd_ne (ne_of_none upd_same nae), upd_same]
      have hae : upd (upd H1 dd (.xd [(Str.ofString "value", bv)])) ae (ExK (.ref T.C_InvalidWeights) (some dd) ae) ae = some (ExK (.ref T.C_InvalidWeights) (some dd) ae) := upd_same
      have s2 := (s1.trans (same_upd (o := .xd [(Str.ofString "value", bv)]) nd)).trans (same_upd (o := ExK (.ref T.C_InvalidWeights) (some dd) ae) nae)
      refine ⟨_, rfl, _, rfl, .inr ⟨ae, _, dd, _, _, _, _, rfl, hae, hdd, T.ei_InvalidWeights, .own _, T.ki_InvalidWeights_InvalidDepth, _, rfl, .inr ⟨ae, _, dd, _, _, _, _, rfl, hae, hdd, T.ei_InvalidWeights, .own _, T.ki_InvalidWeights_InvalidWeights, _, rfl, .inr ⟨ae, _, dd, _, _, _, _, rfl, hae, hdd, T.ei_InvalidWeights, .own _, T.ki_InvalidWeights_InvalidRow, (by show 4 ≤ sizeLine; decide), fun L3 nL3 => ?_⟩⟩⟩⟩
      obtain ⟨H5, e5, s5, hL3⟩ := fresh (.lst [V.bl false, .bl true, .bl false, .bl true]) nL3
      rw [e5]
      refine ⟨(by show 4 ≤ sizeLine; decide), fun M nM => ?_⟩
      obtain ⟨H6, e6, s6, hM⟩ := fresh (.lst [V.str (Str.ofString "depth"), .str (Str.ofString "weights"), .str (Str.ofString "row"), .str (Str.ofString "none")]) nM
      rw [e6]
      refine ⟨_, rfl, .inl ⟨rfl, _, .inl (.inl (s6 _ _ hL3))⟩, L3, _, .bl true, 1, .bl true, rfl, rfl, .inl (.inl (s6 _ _ hL3)), rfl, rfl, rfl, rfl, no1, M, _, _, _, rfl, rfl, .inl (.inl hM), atI_nat (j := 1) rfl, ?_⟩
      have s26 := s5.trans s6
      have s06 := s2.trans s26
      refine ⟨_, rfl, rfl, _, rfl, iteDF (fun z => nomatch z) ⟨_, rfl, ae, _, dd, _, bv, rfl, s26 _ _ hae, s26 _ _ hdd, T.er_InvalidWeights.xf, T.er_InvalidWeights.sup.nov, rfl, (hS.same s06).repr ⟨(by show 2 ≤ sizeLine; decide), fun p np => ?_⟩⟩⟩
      exact q _ p (s06.trans (same_upd np)) (s06.free np) upd_same
    · refine .inl ⟨d, rfl, d1, d2, .inl ⟨b, ws, rfl, hb, gw, .inl ⟨c, fs, rfl, hc, sf, lf, .inl ⟨b2, us, rfl, hb2, gu, .inr ⟨hv, fun H1 dd s1 nd => ?_⟩⟩⟩⟩⟩
      refine ⟨true, T.em_InvalidRow_SoundError, fun _ ae nae => ?_, fun z => nomatch z⟩
      have hdd : upd (upd H1 dd (.xd [(Str.ofString "value", bv)])) ae (ExK (.ref T.C_InvalidRow) (some dd) ae) dd = some (.xd [(Str.ofString "value", bv)]) := by
        rw [upd_ne (ne_of_none upd_same nae), upd_same]
      have hae : upd (upd H1 dd (.xd [(Str.ofString "value", bv)])) ae (ExK (.ref T.C_InvalidRow) (some dd) ae) ae = some (ExK (.ref T.C_InvalidRow) (some dd) ae) := upd_same
      have s2 := (s1.trans (same_upd (o := .xd [(Str.ofString "value", bv)]) nd)).trans (same_upd (o := ExK (.ref T.C_InvalidRow) (some dd) ae) nae)
      refine ⟨_, rfl, _, rfl, .inr ⟨ae, _, dd, _, _, _, _, rfl, hae, hdd, T.ei_InvalidRow, .own _, T.ki_InvalidRow_InvalidDepth, _, rfl, .inr ⟨ae, _, dd, _, _, _, _, rfl, hae, hdd, T.ei_InvalidRow, .own _, T.ki_InvalidRow_InvalidWeights, _, rfl, .inr ⟨ae, _, dd, _, _, _, _, rfl, hae, hdd, T.ei_InvalidRow, .own _, T.ki_InvalidRow_InvalidRow, (by show 4 ≤ sizeLine; decide), fun L3 nL3 => ?_⟩⟩⟩⟩
      obtain ⟨H5, e5, s5, hL3⟩ := fresh (.lst [V.bl false, .bl false, .bl true, .bl true]) nL3
      rw [e5]
      refine ⟨(by show 4 ≤ sizeLine; decide), fun M nM => ?_⟩
      obtain ⟨H6, e6, s6, hM⟩ := fresh (.lst [V.str (Str.ofString "depth"), .str (Str.ofString "weights"), .str (Str.ofString "row"), .str (Str.ofString "none")]) nM
      rw [e6]
      refine ⟨_, rfl, .inl ⟨rfl, _, .inl (.inl (s6 _ _ hL3))⟩, L3, _, .bl true, 2, .bl true, rfl, rfl, .inl (.inl (s6 _ _ hL3)), rfl, rfl, rfl, rfl, no2, M, _, _, _, rfl, rfl, .inl (.inl hM), atI_nat (j := 2) rfl, ?_⟩
      have s26 := s5.trans s6
      have s06 := s2.trans s26
      refine ⟨_, rfl, rfl, _, rfl, iteDF (fun z => nomatch z) ⟨_, rfl, ae, _, dd, _, bv, rfl, s26 _ _ hae, s26 _ _ hdd, T.er_InvalidRow.xf, T.er_InvalidRow.sup.nov, rfl, (hS.same s06).repr ⟨(by show 2 ≤ sizeLine; decide), fun p np => ?_⟩⟩⟩
      exact q _ p (s06.trans (same_upd np)) (s06.free np) upd_same
  · refine ⟨_, rfl, rfl, _, rfl, iteDF (fun z => nomatch z) ?_⟩
    refine ⟨_, rfl, a, _, _, _, rfl, rfl, .inl (.inl ha), atI_nat (j := 0) rfl, _, rfl, a, _, _, _, rfl, rfl, .inl (.inl ha), atI_nat (j := 1) rfl, _, rfl, a, _, _, _, rfl, rfl, .inl (.inl ha), atI_nat (j := 2) rfl, _, rfl, a, _, _, _, rfl, rfl, .inl (.inl ha), atI_nat (j := 3) rfl, _, rfl, a, _, _, _, rfl, rfl, .inl (.inl ha), atI_nat (j := 4) rfl, _, _, _, _, _, rfl, ?_⟩
    rcases hc with ⟨rfl, rfl, hx⟩ | ⟨d, rfl, d1, d2, ⟨rfl, rfl, hy⟩ | ⟨b, ws, rfl, hb, gw, ⟨rfl, rfl, hz⟩ | ⟨c, fs, rfl, hc, sf, lf, ⟨rfl, rfl, hu⟩ | ⟨b2, us, rfl, hb2, gu, rfl, rfl, hv⟩⟩⟩⟩
    · refine .inr ⟨hx, fun H1 dd s1 nd => ?_⟩
      refine ⟨true, T.em_InvalidDepth_SoundError, fun _ ae nae => ?_, fun z => nomatch z⟩
      have hdd : upd (upd H1 dd (.xd [(Str.ofString "value", bv)])) ae (ExK (.ref T.C_InvalidDepth) (some dd) ae) dd = some (.xd [(Str.ofString "value", bv)]) := by
        rw [upd_ne (ne_of_none upd_same nae), upd_same]
      have hae : upd (upd H1 dd (.xd [(Str.ofString "value", bv)])) ae (ExK (.ref T.C_InvalidDepth) (some dd) ae) ae = some (ExK (.ref T.C_InvalidDepth) (some dd) ae) := upd_same
      have s2 := (s1.trans (same_upd (o := .xd [(Str.ofString "value", bv)]) nd)).trans (same_upd (o := ExK (.ref T.C_InvalidDepth) (some dd) ae) nae)
      refine ⟨_, rfl, _, rfl, .inr ⟨ae, _, dd, _, _, _, _, rfl, hae, hdd, T.ei_InvalidDepth, .own _, T.ki_InvalidDepth_InvalidDepth, _, rfl, .inr ⟨ae, _, dd, _, _, _, _, rfl, hae, hdd, T.ei_InvalidDepth, .own _, T.ki_InvalidDepth_InvalidWeights, _, rfl, .inr ⟨ae, _, dd, _, _, _, _, rfl, hae, hdd, T.ei_InvalidDepth, .own _, T.ki_InvalidDepth_InvalidRow, (by show 4 ≤ sizeLine; decide), fun L3 nL3 => ?_⟩⟩⟩⟩
      obtain ⟨H5, e5, s5, hL3⟩ := fresh (.lst [V.bl true, .bl false, .bl false, .bl true]) nL3
      rw [e5]
      refine ⟨(by show 4 ≤ sizeLine; decide), fun M nM => ?_⟩
      obtain ⟨H6, e6, s6, hM⟩ := fresh (.lst [V.str (Str.ofString "depth"), .str (Str.ofString "weights"), .str (Str.ofString "row"), .str (Str.ofString "none")]) nM
      rw [e6]
      refine ⟨_, rfl, .inl ⟨rfl, _, .inl (.inl (s6 _ _ hL3))⟩, L3, _, .bl true, 0, .bl true, rfl, rfl, .inl (.inl (s6 _ _ hL3)), rfl, rfl, rfl, rfl, no0, M, _, _, _, rfl, rfl, .inl (.inl hM), atI_nat (j := 0) rfl, ?_⟩
      have s26 := s5.trans s6
      have s06 := s2.trans s26
      refine ⟨_, rfl, rfl, _, rfl, iteDF (fun z => nomatch z) ⟨_, rfl, ae, _, dd, _, bv, rfl, s26 _ _ hae, s26 _ _ hdd, T.er_InvalidDepth.xf, T.er_InvalidDepth.sup.nov, rfl, (hS.same s06).repr ⟨(by show 2 ≤ sizeLine; decide), fun p np => ?_⟩⟩⟩
      exact q _ p (s06.trans (same_upd np)) (s06.free np) upd_same
    · refine .inl ⟨d, rfl, d1, d2, .inr ⟨hy, fun H1 dd s1 nd => ?_⟩⟩
      refine ⟨true, T.em_InvalidWeights_SoundError, fun _ ae nae => ?_, fun z => nomatch z⟩
      have hdd : upd (upd H1 dd (.xd [(Str.ofString "value", bv)])) ae (ExK (.ref T.C_InvalidWeights) (some dd) ae) dd = some (.xd [(Str.ofString "value", bv)]) := by
        rw [upd_ne (ne_of_none upd_same nae), upd_same]
      have hae : upd (upd H1 dd (.xd [(Str.ofString "value", bv)])) ae (ExK (.ref T.C_InvalidWeights) (some dd) ae) ae = some (ExK (.ref T.C_InvalidWeights) (some dd) ae) := upd_same
      have s2 := (s1.trans (same_upd (o := .xd [(Str.ofString "value", bv)]) nd)).trans (same_upd (o := ExK (.ref T.C_InvalidWeights) (some dd) ae) nae)
      refine ⟨_, rfl, _, rfl, .inr ⟨ae, _, dd, _, _, _, _, rfl, hae, hdd, T.ei_InvalidWeights, .own _, T.ki_InvalidWeights_InvalidDepth, _, rfl, .inr ⟨ae, _, dd, _, _, _, _, rfl, hae, hdd, T.ei_InvalidWeights, .own _, T.ki_InvalidWeights_InvalidWeights, _, rfl, .inr ⟨ae, _, dd, _, _, _, _, rfl, hae, hdd, T.ei_InvalidWeights, .own _, T.ki_InvalidWeights_InvalidRow, (by show 4 ≤ sizeLine; decide), fun L3 nL3 => ?_⟩⟩⟩⟩
      obtain ⟨H5, e5, s5, hL3⟩ := fresh (.lst [V.bl false, .bl true, .bl false, .bl true]) nL3
      rw [e5]
      refine ⟨(by show 4 ≤ sizeLine; decide), fun M nM => ?_⟩
      obtain ⟨H6, e6, s6, hM⟩ := fresh (.lst [V.str (Str.ofString "depth"), .str (Str.ofString "weights"), .str (Str.ofString "row"), .str (Str.ofString "none")]) nM
      rw [e6]
      refine ⟨_, rfl, .inl ⟨rfl, _, .inl (.inl (s6 _ _ hL3))⟩, L3, _, .bl true, 1, .bl true, rfl, rfl, .inl (.inl (s6 _ _ hL3)), rfl, rfl, rfl, rfl, no1, M, _, _, _, rfl, rfl, .inl (.inl hM), atI_nat (j := 1) rfl, ?_⟩
      have s26 := s5.trans s6
      have s06 := s2.trans s26
      refine ⟨_, rfl, rfl, _, rfl, iteDF (fun z => nomatch z) ⟨_, rfl, ae, _, dd, _, bv, rfl, s26 _ _ hae, s26 _ _ hdd, T.er_InvalidWeights.xf, T.er_InvalidWeights.sup.nov, rfl, (hS.same s06).repr ⟨(by show 2 ≤ sizeLine; decide), fun p np => ?_⟩⟩⟩
      exact q _ p (s06.trans (same_upd np)) (s06.free np) upd_same
    · refine .inl ⟨d, rfl, d1, d2, .inl ⟨b, ws, rfl, hb, gw, .inr ⟨hz, fun H1 dd s1 nd => ?_⟩⟩⟩
      refine ⟨true, T.em_InvalidRow_SoundError, fun _ ae nae => ?_, fun z => nomatch z⟩
      have hdd : upd (upd H1 dd (.xd [(Str.ofString "value", bv)])) ae (ExK (.ref T.C_InvalidRow) (some dd) ae) dd = some (.xd [(Str.ofString "value", bv)]) := by
        rw [upd_ne (ne_of_none upd_same nae), upd_same]
      have hae : upd (upd H1 dd (.xd [(Str.ofString "value", bv)])) ae (ExK (.ref T.C_InvalidRow) (some dd) ae) ae = some (ExK (.ref T.C_InvalidRow) (some dd) ae) := upd_same
      have s2 := (s1.trans (same_upd (o := .xd [(Str.ofString "value", bv)]) nd)).trans (same_upd (o := ExK (.ref T.C_InvalidRow) (some dd) ae) nae)
      refine ⟨_, rfl, _, rfl, .inr ⟨ae, _, dd, _, _, _, _, rfl, hae, hdd, T.ei_InvalidRow, .own _, T.ki_InvalidRow_InvalidDepth, _, rfl, .inr ⟨ae, _, dd, _, _, _, _, rfl, hae, hdd, T.ei_InvalidRow, .own _, T.ki_InvalidRow_InvalidWeights, _, rfl, .inr ⟨ae, _, dd, _, _, _, _, rfl, hae, hdd, T.ei_InvalidRow, .own _, T.ki_InvalidRow_InvalidRow, (by show 4 ≤ sizeLine; decide), fun L3 nL3 => ?_⟩⟩⟩⟩
      obtain ⟨H5, e5, s5, hL3⟩ := fresh (.lst [V.bl false, .bl false, .bl true, .bl true]) nL3
      rw [e5]
      refine ⟨(by show 4 ≤ sizeLine; decide), fun M nM => ?_⟩
      obtain ⟨H6, e6, s6, hM⟩ := fresh (.lst [V.str (Str.ofString "depth"), .str (Str.ofString "weights"), .str (Str.ofString "row"), .str (Str.ofString "none")]) nM
      rw [e6]
      refine ⟨_, rfl, .inl ⟨rfl, _, .inl (.inl (s6 _ _ hL3))⟩, L3, _, .bl true, 2, .bl true, rfl, rfl, .inl (.inl (s6 _ _ hL3)), rfl, rfl, rfl, rfl, no2, M, _, _, _, rfl, rfl, .inl (.inl hM), atI_nat (j := 2) rfl, ?_⟩
      have s26 := s5.trans s6
      have s06 := s2.trans s26
      refine ⟨_, rfl, rfl, _, rfl, iteDF (fun z => nomatch z) ⟨_, rfl, ae, _, dd, _, bv, rfl, s26 _ _ hae, s26 _ _ hdd, T.er_InvalidRow.xf, T.er_InvalidRow.sup.nov, rfl, (hS.same s06).repr ⟨(by show 2 ≤ sizeLine; decide), fun p np => ?_⟩⟩⟩
      exact q _ p (s06.trans (same_upd np)) (s06.free np) upd_same
    · refine .inl ⟨d, rfl, d1, d2, .inl ⟨b, ws, rfl, hb, gw, .inl ⟨c, fs, rfl, hc, sf, lf, .inr ⟨hu, fun H1 dd s1 nd => ?_⟩⟩⟩⟩
      refine ⟨true, T.em_InvalidWeights_SoundError, fun _ ae nae => ?_, fun z => nomatch z⟩
      have hdd : upd (upd H1 dd (.xd [(Str.ofString "value", bv)])) ae (ExK (.ref T.C_InvalidWeights) (some dd) ae) dd = some (.xd [(Str.ofString "value", bv)]) := by
        rw [upd_ne (ne_of_none upd_same nae), upd_same]
      have hae : upd (upd H1 dd (.xd [(Str.ofString "value", bv)])) ae (ExK (.ref T.C_InvalidWeights) (some dd) ae) ae = some (ExK (.ref T.C_InvalidWeights) (some dd) ae) := upd_same
      have s2 := (s1.trans (same_upd (o := .xd [(Str.ofString "value", bv)]) nd)).trans (same_upd (o := ExK (.ref T.C_InvalidWeights) (some dd) ae) nae)
      refine ⟨_, rfl, _, rfl, .inr ⟨ae, _, dd, _, _, _, _, rfl, hae, hdd, T.ei_InvalidWeights, .own _, T.ki_InvalidWeights_InvalidDepth, _, rfl, .inr ⟨ae, _, dd, _, _, _, _, rfl, hae, hdd, T.ei_InvalidWeights, .own _, T.ki_InvalidWeights_InvalidWeights, _, rfl, .inr ⟨ae, _, dd, _, _, _, _, rfl, hae, hdd, T.ei_InvalidWeights, .own _, T.ki_InvalidWeights_InvalidRow, (by show 4 ≤ sizeLine; decide), fun L3 nL3 => ?_⟩⟩⟩⟩
      obtain ⟨H5, e5, s5, hL3⟩ := fresh (.lst [V.bl false, .bl true, .bl false, .bl true]) nL3
      rw [e5]
      refine ⟨(by show 4 ≤ sizeLine; decide), fun M nM => ?_⟩
      obtain ⟨H6, e6, s6, hM⟩ := fresh (.lst [V.str (Str.ofString "depth"), .str (Str.ofString "weights"), .str (Str.ofString "row"), .str (Str.ofString "none")]) nM
      rw [e6]
      refine ⟨_, rfl, .inl ⟨rfl, _, .inl (.inl (s6 _ _ hL3))⟩, L3, _, .bl true, 1, .bl true, rfl, rfl, .inl (.inl (s6 _ _ hL3)), rfl, rfl, rfl, rfl, no1, M, _, _, _, rfl, rfl, .inl (.inl hM), atI_nat (j := 1) rfl, ?_⟩
      have s26 := s5.trans s6
      have s06 := s2.trans s26
      refine ⟨_, rfl, rfl, _, rfl, iteDF (fun z => nomatch z) ⟨_, rfl, ae, _, dd, _, bv, rfl, s26 _ _ hae, s26 _ _ hdd, T.er_InvalidWeights.xf, T.er_InvalidWeights.sup.nov, rfl, (hS.same s06).repr ⟨(by show 2 ≤ sizeLine; decide), fun p np => ?_⟩⟩⟩
      exact q _ p (s06.trans (same_upd np)) (s06.free np) upd_same
    · refine .inl ⟨d, rfl, d1, d2, .inl ⟨b, ws, rfl, hb, gw, .inl ⟨c, fs, rfl, hc, sf, lf, .inl ⟨b2, us, rfl, hb2, gu, .inr ⟨hv, fun H1 dd s1 nd => ?_⟩⟩⟩⟩⟩
      refine ⟨true, T.em_InvalidRow_SoundError, fun _ ae nae => ?_, fun z => nomatch z⟩
      have hdd : upd (upd H1 dd (.xd [(Str.ofString "value", bv)])) ae (ExK (.ref T.C_InvalidRow) (some dd) ae) dd = some (.xd [(Str.ofString "value", bv)]) := by
        rw [upd_ne (ne_of_none upd_same nae), upd_same]
      have hae : upd (upd H1 dd (.xd [(Str.ofString "value", bv)])) ae (ExK (.ref T.C_InvalidRow) (some dd) ae) ae = some (ExK (.ref T.C_InvalidRow) (some dd) ae) := upd_same
      have s2 := (s1.trans (same_upd (o := .xd [(Str.ofString "value", bv)]) nd)).trans (same_upd (o := ExK (.ref T.C_InvalidRow) (some dd) ae) nae)
      refine ⟨_, rfl, _, rfl, .inr ⟨ae, _, dd, _, _, _, _, rfl, hae, hdd, T.ei_InvalidRow, .own _, T.ki_InvalidRow_InvalidDepth, _, rfl, .inr ⟨ae, _, dd, _, _, _, _, rfl, hae, hdd, T.ei_InvalidRow, .own _, T.ki_InvalidRow_InvalidWeights, _, rfl, .inr ⟨ae, _, dd, _, _, _, _, rfl, hae, hdd, T.ei_InvalidRow, .own _, T.ki_InvalidRow_InvalidRow, (by show 4 ≤ sizeLine; decide), fun L3 nL3 => ?_⟩⟩⟩⟩
      obtain ⟨H5, e5, s5, hL3⟩ := fresh (.lst [V.bl false, .bl false, .bl true, .bl true]) nL3
      rw [e5]
      refine ⟨(by show 4 ≤ sizeLine; decide), fun M nM => ?_⟩
      obtain ⟨H6, e6, s6, hM⟩ := fresh (.lst [V.str (Str.ofString "depth"), .str (Str.ofString "weights"), .str (Str.ofString "row"), .str (Str.ofString "none")]) nM
      rw [e6]
      refine ⟨_, rfl, .inl ⟨rfl, _, .inl (.inl (s6 _ _ hL3))⟩, L3, _, .bl true, 2, .bl true, rfl, rfl, .inl (.inl (s6 _ _ hL3)), rfl, rfl, rfl, rfl, no2, M, _, _, _, rfl, rfl, .inl (.inl hM), atI_nat (j := 2) rfl, ?_⟩
      have s26 := s5.trans s6
      have s06 := s2.trans s26
      refine ⟨_, rfl, rfl, _, rfl, iteDF (fun z => nomatch z) ⟨_, rfl, ae, _, dd, _, bv, rfl, s26 _ _ hae, s26 _ _ hdd, T.er_InvalidRow.xf, T.er_InvalidRow.sup.nov, rfl, (hS.same s06).repr ⟨(by show 2 ≤ sizeLine; decide), fun p np => ?_⟩⟩⟩
      exact q _ p (s06.trans (same_upd np)) (s06.free np) upd_same
end
end My

namespace My
open PySem PySem.Spec PyProof.Rows L2 Pre
/-! ### rows alike for ever: all that is refused -/
local macro_rules | `(tactic| walk_at "go") => `(tactic| repeat (first | (with_reducible first | refine iteT ?_ | refine iteF ?_ | refine iteNtt ?_ | refine iteNff ?_ | refine iteET (by omega) ?_ | refine iteEF (by omega) ?_ | refine iteENT (by omega) ?_ | refine iteENF (by omega) ?_ | refine iteDT (by omega) ?_ | refine iteDF (by omega) ?_ | refine iteNT (by omega) ?_ | refine iteNF (by omega) ?_) | refine ⟨_, rfl, ?_⟩ | refine ⟨_, _, rfl, rfl, ?_⟩ | refine ⟨_, _, rfl, ?_⟩ | refine ⟨rfl, ?_⟩ | refine .inl ⟨_, rfl, ?_⟩ | refine .inr ⟨_, rfl, ?_⟩))
local macro_rules | `(tactic| walk_at "b") => `(tactic| try dsimp (config := { proj := false, iota := false, eta := false, zeta := false }) only)
section
variable {P : Program} {w : World} {K : PySem.W.Frag} {mg : Str → Option Value} {base : Heap} [pf : Sup.PF P fileS]
def sp_law_refused : Sp := fun vs H Q _ => vs = [] ∧ ∀ H', Same H H' → Q (.bl true) H'
theorem G_law_refused (T : Top K mg) : FnG P w K mg base CX0 9 T.f_law_refused T.fd_law_refused [] sp_law_refused := by
  refine FnG.body T.F_law_refused sc_law_refused (fun vs H Q E h => by obtain ⟨rfl, _⟩ := h; rfl) (fun cdv A outer s H vs Q E gd hr h => ?_)
  obtain ⟨rfl, q⟩ := h
  refine ⟨_, PSs.nox (pss_cons (ps_for PassesOwn.never rfl (pi_range1 (by rfl) T.n_range (pa_cons pe_int pa_nil)) (pg_name (i := 0) sc_law_refused.nd rfl (by first | exact Or.inl rfl | exact Or.inr rfl))
    (pss_cons (ps_for PassesOwn.never rfl (k_piL K rfl (pe_lst (pa_cons pe_non (pa_cons pe_int (pa_cons pe_int (pa_cons pe_bl (pa_cons pe_str pa_nil))))))) (pg_name (i := 1) sc_law_refused.nd rfl (by first | exact Or.inl rfl | exact Or.inr rfl))
    (pss_one (ps_if (pt_cmpR (k_neD K rfl hr.units) (pe_callG (G_law_caught (P := P) T) gd (hr.mono (by decide)) (by rfl) T.g_law_caught T.F_law_caught.kp T.b_law_caught .nil pass0 (pa_cons (pv 0) (pa_cons (pe_lst (pa_cons (pv 1) (pa_cons pe_non (pa_cons pe_non (pa_cons pe_non (pa_cons pe_non pa_nil)))))) pa_nil))) (pe_lst (pa_cons pe_str (pa_cons (pe_callB (k_reprX K rfl gd (hu65 hr)) (by rfl) T.n_repr (by decide +kernel) (pa_cons (pv 1) pa_nil)) pa_nil))) (nomark _))
    (pss_one (ps_ret pe_bl))
    pss_nil)))
  (pss_cons (ps_for PassesOwn.never rfl (k_piL K rfl (pe_lst (pa_cons pe_non (pa_cons (pe_tup pa_nil) (pa_cons (pe_lst (pa_cons pe_bl pa_nil)) (pa_cons (pe_lst (pa_cons pe_int (pa_cons pe_non pa_nil))) (pa_cons (pe_lst (pa_cons pe_int pa_nil)) (pa_cons (pe_op op_rep (pe_lst (pa_cons pe_int pa_nil)) pe_int) pa_nil)))))))) (pg_name (i := 1) sc_law_refused.nd rfl (by first | exact Or.inl rfl | exact Or.inr rfl))
    (pss_cons (ps_if (pt_cmpR (k_neD K rfl hr.units) (pe_callG (G_law_caught (P := P) T) gd (hr.mono (by decide)) (by rfl) T.g_law_caught T.F_law_caught.kp T.b_law_caught .nil pass0 (pa_cons (pv 0) (pa_cons (pe_lst (pa_cons pe_int (pa_cons (pv 1) (pa_cons pe_non (pa_cons pe_non (pa_cons pe_non pa_nil)))))) pa_nil))) (pe_lst (pa_cons pe_str (pa_cons (pe_callB (k_reprX K rfl gd (hu65 hr)) (by rfl) T.n_repr (by decide +kernel) (pa_cons (pv 1) pa_nil)) pa_nil))) (nomark _))
    (pss_one (ps_ret pe_bl))
    pss_nil)
  (pss_one (ps_if (pt_cmpR (k_neD K rfl hr.units) (pe_callG (G_law_caught (P := P) T) gd (hr.mono (by decide)) (by rfl) T.g_law_caught T.F_law_caught.kp T.b_law_caught .nil pass0 (pa_cons (pv 0) (pa_cons (pe_lst (pa_cons pe_int (pa_cons (pe_lst (pa_cons pe_int pa_nil)) (pa_cons (pe_lst (pa_cons pe_int pa_nil)) (pa_cons (pv 1) (pa_cons pe_non pa_nil)))))) pa_nil))) (pe_lst (pa_cons pe_str (pa_cons (pe_callB (k_reprX K rfl gd (hu65 hr)) (by rfl) T.n_repr (by decide +kernel) (pa_cons (pv 1) pa_nil)) pa_nil))) (nomark _))
    (pss_one (ps_ret pe_bl))
    pss_nil))))
  (pss_one (ps_for PassesOwn.never rfl (k_piL K rfl (pe_lst (pa_cons pe_non (pa_cons (pe_tup pa_nil) (pa_cons (pe_tup (pa_cons pe_int pa_nil)) (pa_cons (pe_lst (pa_cons pe_int pa_nil)) (pa_cons (pe_lst (pa_cons pe_bl pa_nil)) (pa_cons (pe_lst pa_nil) (pa_cons (pe_lst (pa_cons pe_int (pa_cons pe_int pa_nil))) (pa_cons pe_str pa_nil)))))))))) (pg_name (i := 1) sc_law_refused.nd rfl (by first | exact Or.inl rfl | exact Or.inr rfl))
    (pss_cons (ps_if (pt_cmpR (k_neD K rfl hr.units) (pe_callG (G_law_caught (P := P) T) gd (hr.mono (by decide)) (by rfl) T.g_law_caught T.F_law_caught.kp T.b_law_caught .nil pass0 (pa_cons (pv 0) (pa_cons (pe_lst (pa_cons pe_int (pa_cons (pe_lst (pa_cons pe_int pa_nil)) (pa_cons (pv 1) (pa_cons pe_non (pa_cons pe_non pa_nil)))))) pa_nil))) (pe_lst (pa_cons pe_str (pa_cons (pe_callB (k_reprX K rfl gd (hu65 hr)) (by rfl) T.n_repr (by decide +kernel) (pa_cons (pv 1) pa_nil)) pa_nil))) (nomark _))
    (pss_one (ps_ret pe_bl))
    pss_nil)
  (pss_one (ps_if (pt_cmpR (k_neD K rfl hr.units) (pe_callG (G_law_caught (P := P) T) gd (hr.mono (by decide)) (by rfl) T.g_law_caught T.F_law_caught.kp T.b_law_caught .nil pass0 (pa_cons (pv 0) (pa_cons (pe_lst (pa_cons pe_int (pa_cons (pe_lst (pa_cons pe_int pa_nil)) (pa_cons (pe_lst (pa_cons pe_int pa_nil)) (pa_cons (pe_lst (pa_cons pe_int pa_nil)) (pa_cons (pv 1) pa_nil)))))) pa_nil))) (pe_lst (pa_cons pe_str (pa_cons (pe_callB (k_reprX K rfl gd (hu65 hr)) (by rfl) T.n_repr (by decide +kernel) (pa_cons (pv 1) pa_nil)) pa_nil))) (nomark _))
    (pss_one (ps_ret pe_bl))
    pss_nil))))))))
  (pss_one (ps_ret pe_bl))), ?_⟩
  refine ⟨_, rfl, by decide, by decide, ?_⟩
  refine for_range (lo := 0) (n := Int.toNat 2) (fun k σ HA => ∃ v0 v1 : Option V, σ = [v0, v1] ∧ Same H HA) ⟨none, none, rfl, Same.refl _⟩ ?_ ?_
  · rintro k σ HA hk ⟨v0, v1, rfl, sA⟩
    have hk2 : k < 2 := hk
    rw [Int.zero_add]
    refine ⟨(by show 5 ≤ sizeLine; decide), fun q11 nq11 => ?_⟩
    obtain ⟨Hq11, eq11, sq11, hq11⟩ := fresh (.lst [V.non, .int 0, .int 25, .bl true, .str (("4" : String) : Str)]) nq11
    rw [eq11]
    have f1 : ∀ x ∈ [V.non, .int 0, .int 25, .bl true, .str (("4" : String) : Str)], (NumV K Hq11 x 1 (some 24) false) ∧ ∃ t, Shw K Hq11 x t ∧ PyData.strOk t = true := by
      intro x hx
      simp only [List.mem_cons, List.not_mem_nil, or_false] at hx
      rcases hx with rfl | rfl | rfl | rfl | rfl
      · exact ⟨.inr ⟨.inr ⟨_, .base .non, by decide +kernel⟩, rfl⟩, shw_ok .non (by decide +kernel)⟩
      · exact ⟨.inl ⟨0, rfl, (decide_eq_false fun z => absurd z.1 (by decide)).symm⟩, shw_ok (.int _) (by decide +kernel)⟩
      · exact ⟨.inl ⟨25, rfl, (decide_eq_false fun z => absurd (z.2 _ rfl) (by decide)).symm⟩, shw_ok (.int _) (by decide +kernel)⟩
      · exact ⟨.inr ⟨.inl ⟨_, rfl⟩, rfl⟩, shw_ok (.bl _) (by decide +kernel)⟩
      · exact ⟨.inr ⟨.inr ⟨_, .base (.str _), by decide +kernel⟩, rfl⟩, shw_ok (.str _) (by decide +kernel)⟩
    refine ⟨q11, rfl, ⟨_, .inl (.inl hq11)⟩, for_list (K := K) (a := q11) (fun i σ HE1 => ∃ v1 : Option V, σ = [some (.int (k : Nat)), v1] ∧ Same Hq11 HE1) ⟨_, rfl, Same.refl _⟩ (fun i σ HE _ ⟨_, _, s⟩ => .inl (.inl (s _ _ hq11))) ?_ ?_⟩
    · rintro i x σ HE1 hx ⟨v1, rfl, sE1⟩
      obtain ⟨hB, t, hS, hok⟩ := f1 x (List.mem_of_getElem? hx)
      refine ⟨_, rfl, _, rfl, (by show 5 ≤ sizeLine; decide), fun c101 nc101 => ?_⟩
      obtain ⟨Hc101, ec101, sc101, hc101⟩ := fresh (.lst [x, .non, .non, .non, .non]) nc101
      rw [ec101]
      have s0c10 : Same Hq11 Hc101 := (sE1).trans (sc101)
      refine ⟨k, c101, _, _, _, _, _,  x, _, t, rfl, hc101, hS.same s0c10, by omega, .inl ⟨rfl, rfl, hB.same s0c10⟩, fun Hc10X pc10 sXc10 npc10 hpc10 => ?_⟩
      have sYc10 := s0c10.trans sXc10
      refine ⟨_, rfl, (hS.same sYc10).repr ⟨(by show 2 ≤ sizeLine; decide), fun Mc10 nMc10 => ?_⟩⟩
      obtain ⟨Hc10Z, eZc10, sZc10, hMc10⟩ := fresh (.lst [.str (("depth" : String) : Str), .str t]) nMc10
      rw [eZc10]
      refine ⟨_, _, .lst (.inl (.inl (sZc10 _ _ hpc10))) (.cons (.str _) (.cons (.str _) .nil)), .lst (.inl (.inl hMc10)) (.cons (.str _) (.cons (.str _) .nil)), pair_shaped (by decide +kernel) hok, pair_shaped (by decide +kernel) hok, _, rfl, ?_⟩
      rw [pair_eqv]
      refine iteF ?_
      have s3c10 : Same Hq11 Hc10Z := sYc10.trans sZc10
      exact ⟨_, rfl, s3c10⟩
    · rintro σ HE1 ⟨v1, rfl, sE1⟩
      have sF1 := (sq11).trans sE1
      refine ⟨(by show 0 ≤ sizeLine; decide), fun q21 nq21 => ?_⟩
      obtain ⟨Hq21, eq21, sq21, hq21⟩ := fresh (.tup ([] : List V)) nq21
      rw [eq21]
      refine ⟨(by show 1 ≤ sizeLine; decide), fun q22 nq22 => ?_⟩
      obtain ⟨Hq22, eq22, sq22, hq22⟩ := fresh (.lst [V.bl true]) nq22
      rw [eq22]
      refine ⟨(by show 2 ≤ sizeLine; decide), fun q23 nq23 => ?_⟩
      obtain ⟨Hq23, eq23, sq23, hq23⟩ := fresh (.lst [V.int 1, .non]) nq23
      rw [eq23]
      refine ⟨(by show 1 ≤ sizeLine; decide), fun q24 nq24 => ?_⟩
      obtain ⟨Hq24, eq24, sq24, hq24⟩ := fresh (.lst [V.int 32769]) nq24
      rw [eq24]
      refine ⟨(by show 1 ≤ sizeLine; decide), fun q25 nq25 => ?_⟩
      obtain ⟨Hq25, eq25, sq25, hq25⟩ := fresh (.lst [V.int 0]) nq25
      rw [eq25]
      refine ⟨q25, _, _, rfl, rfl, hq25, by decide, by decide, by decide, fun q26 nq26 => ?_⟩
      obtain ⟨Hq26, eq26, sq26, hq26⟩ := fresh (.lst (List.replicate (Int.toNat 9) [V.int 0]).flatten) nq26
      rw [eq26]
      have hq26 : Hq26 q26 = some (.lst [V.int 0, .int 0, .int 0, .int 0, .int 0, .int 0, .int 0, .int 0, .int 0]) := hq26
      refine ⟨(by show 6 ≤ sizeLine; decide), fun q27 nq27 => ?_⟩
      obtain ⟨Hq27, eq27, sq27, hq27⟩ := fresh (.lst [V.non, .ref q21, .ref q22, .ref q23, .ref q24, .ref q26]) nq27
      rw [eq27]
      have f2 : ∀ x ∈ [V.non, .ref q21, .ref q22, .ref q23, .ref q24, .ref q26], (BadR K Hq27 x) ∧ ∃ t, Shw K Hq27 x t ∧ PyData.strOk t = true := by
        intro x hx
        simp only [List.mem_cons, List.not_mem_nil, or_false] at hx
        rcases hx with rfl | rfl | rfl | rfl | rfl | rfl
        · exact ⟨.inl ⟨_, .base .non, by decide +kernel⟩, shw_ok .non (by decide +kernel)⟩
        · exact ⟨.inl ⟨_, .base (.tup (sq27 _ _ (sq26 _ _ (sq25 _ _ (sq24 _ _ (sq23 _ _ (sq22 _ _ hq21))))))), by decide +kernel⟩, shw_ok (.tup (.inl (.inl (sq27 _ _ (sq26 _ _ (sq25 _ _ (sq24 _ _ (sq23 _ _ (sq22 _ _ hq21)))))))) .nil) (by decide +kernel)⟩
        · exact ⟨.inr ⟨q22, _, rfl, (sq27 _ _ (sq26 _ _ (sq25 _ _ (sq24 _ _ (sq23 _ _ hq22))))), by decide, (items1 (item_bl _)), .inl rfl⟩, shw_ok (.lst (.inl (.inl (sq27 _ _ (sq26 _ _ (sq25 _ _ (sq24 _ _ (sq23 _ _ hq22))))))) (.cons (.bl _) .nil)) (by decide +kernel)⟩
        · exact ⟨.inr ⟨q23, _, rfl, (sq27 _ _ (sq26 _ _ (sq25 _ _ (sq24 _ _ hq23)))), by decide, (items2 (.inl ⟨_, rfl⟩) (item_non)), .inl rfl⟩, shw_ok (.lst (.inl (.inl (sq27 _ _ (sq26 _ _ (sq25 _ _ (sq24 _ _ hq23)))))) (.cons (.int _) (.cons .non .nil))) (by decide +kernel)⟩
        · exact ⟨.inr ⟨q24, _, rfl, (sq27 _ _ (sq26 _ _ (sq25 _ _ hq24))), by decide, (simple_ints ([32769] : List Int)), .inr ⟨([32769] : List Int), rfl, .inr ⟨32769, by simp, by decide⟩⟩⟩, shw_ok (dp_row (ns := ([32769] : List Int)) (.inl (.inl (sq27 _ _ (sq26 _ _ (sq25 _ _ hq24)))))) (by decide +kernel)⟩
        · exact ⟨.inr ⟨q26, _, rfl, (sq27 _ _ hq26), by decide, (simple_ints ([0, 0, 0, 0, 0, 0, 0, 0, 0] : List Int)), .inr ⟨([0, 0, 0, 0, 0, 0, 0, 0, 0] : List Int), rfl, .inl (by decide)⟩⟩, shw_ok (dp_row (ns := ([0, 0, 0, 0, 0, 0, 0, 0, 0] : List Int)) (.inl (.inl (sq27 _ _ hq26)))) (by decide +kernel)⟩
      refine ⟨q27, rfl, ⟨_, .inl (.inl hq27)⟩, for_list (K := K) (a := q27) (fun i σ HE2 => ∃ v1 : Option V, σ = [some (.int (k : Nat)), v1] ∧ Same Hq27 HE2) ⟨_, rfl, Same.refl _⟩ (fun i σ HE _ ⟨_, _, s⟩ => .inl (.inl (s _ _ hq27))) ?_ ?_⟩
      · rintro i x σ HE2 hx ⟨v1, rfl, sE2⟩
        obtain ⟨hB, t, hS, hok⟩ := f2 x (List.mem_of_getElem? hx)
        refine ⟨_, rfl, _, rfl, (by show 5 ≤ sizeLine; decide), fun c201 nc201 => ?_⟩
        obtain ⟨Hc201, ec201, sc201, hc201⟩ := fresh (.lst [V.int 3, x, .non, .non, .non]) nc201
        rw [ec201]
        have s0c20 : Same Hq27 Hc201 := (sE2).trans (sc201)
        refine ⟨k, c201, _, _, _, _, _,  x, _, t, rfl, hc201, hS.same s0c20, by omega, .inr ⟨3, rfl, by decide, by decide, .inl ⟨rfl, rfl, hB.same s0c20⟩⟩, fun Hc20X pc20 sXc20 npc20 hpc20 => ?_⟩
        have sYc20 := s0c20.trans sXc20
        refine ⟨_, rfl, (hS.same sYc20).repr ⟨(by show 2 ≤ sizeLine; decide), fun Mc20 nMc20 => ?_⟩⟩
        obtain ⟨Hc20Z, eZc20, sZc20, hMc20⟩ := fresh (.lst [.str (("weights" : String) : Str), .str t]) nMc20
        rw [eZc20]
        refine ⟨_, _, .lst (.inl (.inl (sZc20 _ _ hpc20))) (.cons (.str _) (.cons (.str _) .nil)), .lst (.inl (.inl hMc20)) (.cons (.str _) (.cons (.str _) .nil)), pair_shaped (by decide +kernel) hok, pair_shaped (by decide +kernel) hok, _, rfl, ?_⟩
        rw [pair_eqv]
        refine iteF ?_
        have s3c20 : Same Hq27 Hc20Z := sYc20.trans sZc20
        refine ⟨_, rfl, (by show 1 ≤ sizeLine; decide), fun c211 nc211 => ?_⟩
        obtain ⟨Hc211, ec211, sc211, hc211⟩ := fresh (.lst [V.int 1]) nc211
        rw [ec211]
        refine ⟨(by show 1 ≤ sizeLine; decide), fun c212 nc212 => ?_⟩
        obtain ⟨Hc212, ec212, sc212, hc212⟩ := fresh (.lst [V.int 1]) nc212
        rw [ec212]
        refine ⟨_, rfl, (by show 5 ≤ sizeLine; decide), fun c213 nc213 => ?_⟩
        obtain ⟨Hc213, ec213, sc213, hc213⟩ := fresh (.lst [V.int 3, .ref c211, .ref c212, x, .non]) nc213
        rw [ec213]
        have s0c21 : Same Hq27 Hc213 := (s3c20).trans ((sc211.trans sc212).trans sc213)
        refine ⟨k, c213, _, _, _, _, _,  x, _, t, rfl, hc213, hS.same s0c21, by omega, .inr ⟨3, rfl, by decide, by decide, .inr ⟨c211, ([1] : List Int), rfl, (sc213 _ _ (sc212 _ _ hc211)), ⟨by decide, by decide⟩, .inr ⟨c212, ([1] : List Int), rfl, (sc213 _ _ hc212), (by unfold Smp; decide), rfl, .inl ⟨rfl, rfl, hB.same s0c21⟩⟩⟩⟩, fun Hc21X pc21 sXc21 npc21 hpc21 => ?_⟩
        have sYc21 := s0c21.trans sXc21
        refine ⟨_, rfl, (hS.same sYc21).repr ⟨(by show 2 ≤ sizeLine; decide), fun Mc21 nMc21 => ?_⟩⟩
        obtain ⟨Hc21Z, eZc21, sZc21, hMc21⟩ := fresh (.lst [.str (("weights" : String) : Str), .str t]) nMc21
        rw [eZc21]
        refine ⟨_, _, .lst (.inl (.inl (sZc21 _ _ hpc21))) (.cons (.str _) (.cons (.str _) .nil)), .lst (.inl (.inl hMc21)) (.cons (.str _) (.cons (.str _) .nil)), pair_shaped (by decide +kernel) hok, pair_shaped (by decide +kernel) hok, _, rfl, ?_⟩
        rw [pair_eqv]
        refine iteF ?_
        have s3c21 : Same Hq27 Hc21Z := sYc21.trans sZc21
        exact ⟨_, rfl, s3c21⟩
      · rintro σ HE2 ⟨v1, rfl, sE2⟩
        have sF2 := ((((((sq21.trans sq22).trans sq23).trans sq24).trans sq25).trans sq26).trans sq27).trans sE2
        refine ⟨(by show 0 ≤ sizeLine; decide), fun q31 nq31 => ?_⟩
        obtain ⟨Hq31, eq31, sq31, hq31⟩ := fresh (.tup ([] : List V)) nq31
        rw [eq31]
        refine ⟨(by show 1 ≤ sizeLine; decide), fun q32 nq32 => ?_⟩
        obtain ⟨Hq32, eq32, sq32, hq32⟩ := fresh (.tup [V.int 1]) nq32
        rw [eq32]
        refine ⟨(by show 1 ≤ sizeLine; decide), fun q33 nq33 => ?_⟩
        obtain ⟨Hq33, eq33, sq33, hq33⟩ := fresh (.lst [V.int 4]) nq33
        rw [eq33]
        refine ⟨(by show 1 ≤ sizeLine; decide), fun q34 nq34 => ?_⟩
        obtain ⟨Hq34, eq34, sq34, hq34⟩ := fresh (.lst [V.bl true]) nq34
        rw [eq34]
        refine ⟨(by show 0 ≤ sizeLine; decide), fun q35 nq35 => ?_⟩
        obtain ⟨Hq35, eq35, sq35, hq35⟩ := fresh (.lst ([] : List V)) nq35
        rw [eq35]
        refine ⟨(by show 2 ≤ sizeLine; decide), fun q36 nq36 => ?_⟩
        obtain ⟨Hq36, eq36, sq36, hq36⟩ := fresh (.lst [V.int 1, .int 1]) nq36
        rw [eq36]
        refine ⟨(by show 8 ≤ sizeLine; decide), fun q37 nq37 => ?_⟩
        obtain ⟨Hq37, eq37, sq37, hq37⟩ := fresh (.lst [V.non, .ref q31, .ref q32, .ref q33, .ref q34, .ref q35, .ref q36, .str (("1" : String) : Str)]) nq37
        rw [eq37]
        have f3 : ∀ x ∈ [V.non, .ref q31, .ref q32, .ref q33, .ref q34, .ref q35, .ref q36, .str (("1" : String) : Str)], (BadF K Hq37 3 1 x) ∧ ∃ t, Shw K Hq37 x t ∧ PyData.strOk t = true := by
          intro x hx
          simp only [List.mem_cons, List.not_mem_nil, or_false] at hx
          rcases hx with rfl | rfl | rfl | rfl | rfl | rfl | rfl | rfl
          · exact ⟨.inl (.inl ⟨_, .base .non, by decide +kernel⟩), shw_ok .non (by decide +kernel)⟩
          · exact ⟨.inl (.inl ⟨_, .base (.tup (sq37 _ _ (sq36 _ _ (sq35 _ _ (sq34 _ _ (sq33 _ _ (sq32 _ _ hq31))))))), by decide +kernel⟩), shw_ok (.tup (.inl (.inl (sq37 _ _ (sq36 _ _ (sq35 _ _ (sq34 _ _ (sq33 _ _ (sq32 _ _ hq31)))))))) .nil) (by decide +kernel)⟩
          · exact ⟨.inl (.inl ⟨_, .base (.tup (sq37 _ _ (sq36 _ _ (sq35 _ _ (sq34 _ _ (sq33 _ _ hq32)))))), by decide +kernel⟩), shw_ok (.tup (.inl (.inl (sq37 _ _ (sq36 _ _ (sq35 _ _ (sq34 _ _ (sq33 _ _ hq32))))))) (.cons (.int _) .nil)) (by decide +kernel)⟩
          · exact ⟨.inl (.inr ⟨q33, _, rfl, (sq37 _ _ (sq36 _ _ (sq35 _ _ (sq34 _ _ hq33)))), by decide, (simple_ints ([4] : List Int)), rfl⟩), shw_ok (dp_row (ns := ([4] : List Int)) (.inl (.inl (sq37 _ _ (sq36 _ _ (sq35 _ _ (sq34 _ _ hq33))))))) (by decide +kernel)⟩
          · exact ⟨.inl (.inr ⟨q34, _, rfl, (sq37 _ _ (sq36 _ _ (sq35 _ _ hq34))), by decide, (items1 (item_bl _)), rfl⟩), shw_ok (.lst (.inl (.inl (sq37 _ _ (sq36 _ _ (sq35 _ _ hq34))))) (.cons (.bl _) .nil)) (by decide +kernel)⟩
          · exact ⟨.inr ⟨q35, ([] : List Int), rfl, (sq37 _ _ (sq36 _ _ hq35)), (by unfold Smp; decide), by decide, by decide⟩, shw_ok (dp_row (ns := ([] : List Int)) (.inl (.inl (sq37 _ _ (sq36 _ _ hq35))))) (by decide +kernel)⟩
          · exact ⟨.inr ⟨q36, ([1, 1] : List Int), rfl, (sq37 _ _ hq36), (by unfold Smp; decide), by decide, by decide⟩, shw_ok (dp_row (ns := ([1, 1] : List Int)) (.inl (.inl (sq37 _ _ hq36)))) (by decide +kernel)⟩
          · exact ⟨.inl (.inl ⟨_, .base (.str _), by decide +kernel⟩), shw_ok (.str _) (by decide +kernel)⟩
        refine ⟨q37, rfl, ⟨_, .inl (.inl hq37)⟩, for_list (K := K) (a := q37) (fun i σ HE3 => ∃ v1 : Option V, σ = [some (.int (k : Nat)), v1] ∧ Same Hq37 HE3) ⟨_, rfl, Same.refl _⟩ (fun i σ HE _ ⟨_, _, s⟩ => .inl (.inl (s _ _ hq37))) ?_ ?_⟩
        · rintro i x σ HE3 hx ⟨v1, rfl, sE3⟩
          obtain ⟨hB, t, hS, hok⟩ := f3 x (List.mem_of_getElem? hx)
          refine ⟨_, rfl, (by show 1 ≤ sizeLine; decide), fun c301 nc301 => ?_⟩
          obtain ⟨Hc301, ec301, sc301, hc301⟩ := fresh (.lst [V.int 1]) nc301
          rw [ec301]
          refine ⟨_, rfl, (by show 5 ≤ sizeLine; decide), fun c302 nc302 => ?_⟩
          obtain ⟨Hc302, ec302, sc302, hc302⟩ := fresh (.lst [V.int 3, .ref c301, x, .non, .non]) nc302
          rw [ec302]
          have s0c30 : Same Hq37 Hc302 := (sE3).trans (sc301.trans sc302)
          refine ⟨k, c302, _, _, _, _, _,  x, _, t, rfl, hc302, hS.same s0c30, by omega, .inr ⟨3, rfl, by decide, by decide, .inr ⟨c301, ([1] : List Int), rfl, (sc302 _ _ hc301), ⟨by decide, by decide⟩, .inl ⟨rfl, rfl, hB.same s0c30⟩⟩⟩, fun Hc30X pc30 sXc30 npc30 hpc30 => ?_⟩
          have sYc30 := s0c30.trans sXc30
          refine ⟨_, rfl, (hS.same sYc30).repr ⟨(by show 2 ≤ sizeLine; decide), fun Mc30 nMc30 => ?_⟩⟩
          obtain ⟨Hc30Z, eZc30, sZc30, hMc30⟩ := fresh (.lst [.str (("row" : String) : Str), .str t]) nMc30
          rw [eZc30]
          refine ⟨_, _, .lst (.inl (.inl (sZc30 _ _ hpc30))) (.cons (.str _) (.cons (.str _) .nil)), .lst (.inl (.inl hMc30)) (.cons (.str _) (.cons (.str _) .nil)), pair_shaped (by decide +kernel) hok, pair_shaped (by decide +kernel) hok, _, rfl, ?_⟩
          rw [pair_eqv]
          refine iteF ?_
          have s3c30 : Same Hq37 Hc30Z := sYc30.trans sZc30
          refine ⟨_, rfl, (by show 1 ≤ sizeLine; decide), fun c311 nc311 => ?_⟩
          obtain ⟨Hc311, ec311, sc311, hc311⟩ := fresh (.lst [V.int 1]) nc311
          rw [ec311]
          refine ⟨(by show 1 ≤ sizeLine; decide), fun c312 nc312 => ?_⟩
          obtain ⟨Hc312, ec312, sc312, hc312⟩ := fresh (.lst [V.int 1]) nc312
          rw [ec312]
          refine ⟨(by show 1 ≤ sizeLine; decide), fun c313 nc313 => ?_⟩
          obtain ⟨Hc313, ec313, sc313, hc313⟩ := fresh (.lst [V.int 2]) nc313
          rw [ec313]
          refine ⟨_, rfl, (by show 5 ≤ sizeLine; decide), fun c314 nc314 => ?_⟩
          obtain ⟨Hc314, ec314, sc314, hc314⟩ := fresh (.lst [V.int 3, .ref c311, .ref c312, .ref c313, x]) nc314
          rw [ec314]
          have s0c31 : Same Hq37 Hc314 := (s3c30).trans (((sc311.trans sc312).trans sc313).trans sc314)
          refine ⟨k, c314, _, _, _, _, _,  x, _, t, rfl, hc314, hS.same s0c31, by omega, .inr ⟨3, rfl, by decide, by decide, .inr ⟨c311, ([1] : List Int), rfl, (sc314 _ _ (sc313 _ _ (sc312 _ _ hc311))), ⟨by decide, by decide⟩, .inr ⟨c312, ([1] : List Int), rfl, (sc314 _ _ (sc313 _ _ hc312)), (by unfold Smp; decide), rfl, .inr ⟨c313, ([2] : List Int), rfl, (sc314 _ _ hc313), ⟨by decide, by decide⟩, rfl, rfl, hB.same s0c31⟩⟩⟩⟩, fun Hc31X pc31 sXc31 npc31 hpc31 => ?_⟩
          have sYc31 := s0c31.trans sXc31
          refine ⟨_, rfl, (hS.same sYc31).repr ⟨(by show 2 ≤ sizeLine; decide), fun Mc31 nMc31 => ?_⟩⟩
          obtain ⟨Hc31Z, eZc31, sZc31, hMc31⟩ := fresh (.lst [.str (("row" : String) : Str), .str t]) nMc31
          rw [eZc31]
          refine ⟨_, _, .lst (.inl (.inl (sZc31 _ _ hpc31))) (.cons (.str _) (.cons (.str _) .nil)), .lst (.inl (.inl hMc31)) (.cons (.str _) (.cons (.str _) .nil)), pair_shaped (by decide +kernel) hok, pair_shaped (by decide +kernel) hok, _, rfl, ?_⟩
          rw [pair_eqv]
          refine iteF ?_
          have s3c31 : Same Hq37 Hc31Z := sYc31.trans sZc31
          exact ⟨_, rfl, s3c31⟩
        · rintro σ HE3 ⟨v1, rfl, sE3⟩
          have sF3 := ((((((sq31.trans sq32).trans sq33).trans sq34).trans sq35).trans sq36).trans sq37).trans sE3
          exact ⟨_, _, rfl, ((sA.trans sF1).trans sF2).trans sF3⟩
  · rintro σ HA ⟨v0, v1, rfl, sA⟩
    exact q _ sA
end
end My

namespace My
open PySem PySem.Spec PyProof.Rows L2 Pre
/-! ### rows alike for ever: pairs of rows -/
theorem unlL_swap (n : Nat) (f g : Nat → Int) : unlL n f g = unlL n g f := by
  unfold unlL
  exact List.filter_congr fun i _ => by rw [decide_eq_decide]; exact ⟨fun h e => h e.symm, fun h e => h e.symm⟩
theorem unlL_mem {n : Nat} {f g : Nat → Int} {i : Nat} : i ∈ unlL n f g ↔ i < n ∧ f i ≠ g i := by
  unfold unlL
  rw [List.mem_filter, List.mem_range, decide_eq_true_iff]
  exact ⟨fun h => ⟨h.1, fun e => h.2 e.symm⟩, fun h => ⟨h.1, fun e => h.2 e.symm⟩⟩
theorem unlL_cut {c n : Nat} {f g : Nat → Int} (h : c ≤ n) (e : ∀ i, c ≤ i → i < n → f i = g i) : unlL n f g = unlL c f g := by
  obtain ⟨k, rfl⟩ := Nat.le.dest h
  unfold unlL
  rw [List.range_add, List.filter_append]
  have : ((List.range k).map fun x => c + x).filter (fun i => decide (g i ≠ f i)) = [] := by
    rw [List.filter_eq_nil_iff]
    intro i hi
    obtain ⟨j, hj, rfl⟩ := List.mem_map.mp hi
    have hj := List.mem_range.mp hj
    rw [decide_eq_true_iff]
    exact fun hne => hne (e (c + j) (by omega) (by omega)).symm
  rw [this, List.append_nil]
theorem headV_cut {c n : Nat} {f g : Nat → Int} (h : c ≤ n) (e : (∀ i, i < c → f i = g i) → ∀ i, f i = g i) : headV (unlL n f g) = headV (unlL c f g) := by
  obtain ⟨k, rfl⟩ := Nat.le.dest h
  cases hc : unlL c f g with
  | nil =>
    have : ∀ i, i < c → f i = g i := fun i hi => Classical.byContradiction fun hne => by
      have := (unlL_mem (n := c) (f := f) (g := g)).mpr ⟨hi, hne⟩
      rw [hc] at this
      cases this
    rw [unlL_cut (c := 0) (n := c + k) (Nat.zero_le _) fun i _ _ => e this i]
    rfl
  | cons a r =>
    have : unlL (c + k) f g = unlL c f g ++ ((List.range k).map fun x => c + x).filter (fun i => decide (g i ≠ f i)) := by
      unfold unlL
      rw [List.range_add, List.filter_append]
    rw [this, hc]
    rfl
theorem unlL_up {n : Nat} {f g : Nat → Int} : (unlL n f g).Pairwise (· < ·) := List.Pairwise.filter _ List.pairwise_lt_range
theorem last_max {l : List Nat} (hp : l.Pairwise (· < ·)) {i j : Nat} (h : l.getLast? = some i) (hj : j ∈ l) : j ≤ i := by
  have hne : l ≠ [] := by intro e; rw [e] at h; cases h
  have e := List.dropLast_concat_getLast hne
  rw [List.getLast?_eq_some_getLast hne] at h
  rw [Option.some.inj h] at e
  rw [← e] at hp hj
  rcases List.mem_append.mp hj with h1 | h1
  · exact Nat.le_of_lt ((List.pairwise_append.mp hp).2.2 j h1 i (List.mem_singleton.mpr rfl))
  · rw [List.mem_singleton.mp h1]; exact Nat.le_refl _
/-- told alike from a place: no far ones -/
theorem alk_near {c n m : Nat} {f g : Nat → Int} (hn : c ≤ n) (hm : n ≤ m) (h : (unlL m f g).filter (fun i => decide (c ≤ i)) = []) : alkV (unlL n f g) c = match (unlL m f g).getLast? with | none => .int 0 | some i => .int ((i : Int) + 1) := by
  have e : ∀ i, c ≤ i → i < m → f i = g i := fun i h1 h2 => Classical.byContradiction fun hne => by
    have := List.filter_eq_nil_iff.mp h i (unlL_mem.mpr ⟨h2, hne⟩)
    exact this (decide_eq_true h1)
  rw [unlL_cut hn fun i h1 h2 => e i h1 (by omega), unlL_cut (n := m) (c := c) (by omega) e]
  unfold alkV
  cases hl : (unlL c f g).getLast? with
  | none => rfl
  | some i =>
    have := (unlL_mem.mp (List.mem_of_getLast? hl)).1
    show (if c ≤ i then V.non else .int ((i : Int) + 1)) = _
    rw [if_neg (by omega)]
/-- a far one -/
theorem alk_far {c n : Nat} {f g : Nat → Int} {i : Nat} (h1 : c ≤ i) (h2 : i < n) (hne : f i ≠ g i) : alkV (unlL n f g) c = .non := by
  have hm := (unlL_mem (n := n)).mpr ⟨h2, hne⟩
  unfold alkV
  cases hl : (unlL n f g).getLast? with
  | none =>
    rw [List.getLast?_eq_none_iff] at hl
    rw [hl] at hm
    cases hm
  | some j =>
    have := last_max unlL_up hl hm
    show (if c ≤ j then V.non else _) = _
    rw [if_pos (by omega)]
def headD : List Nat → PyData
  | [] => .none
  | i :: _ => .int (i : Int)
theorem headD_dp {K : PySem.W.Frag} {H : Hp} (l : List Nat) : Dp K H (headV l) (headD l) := by
  cases l with
  | nil => exact .non
  | cons i r => exact .int _
theorem headD_eqv (l : List Nat) : PyData.eqv (.list [headD l, headD l]) (.list [headD l, headD l]) = true := by
  cases l <;> simp [headD, PyData.eqv, PyData.eqvAll]
theorem headD_shaped (l : List Nat) : SeqAt.shaped (.list [headD l, headD l]) = true := by
  cases l <;> simp [headD, SeqAt.shaped, PyData.canLay0, PyData.canLayAll0, PyData.depth, PyData.depthAll]
local macro_rules | `(tactic| walk_at "go") => `(tactic| repeat (first | (with_reducible first | refine iteT ?_ | refine iteF ?_ | refine iteNtt ?_ | refine iteNff ?_ | refine iteET (by omega) ?_ | refine iteEF (by omega) ?_ | refine iteENT (by omega) ?_ | refine iteENF (by omega) ?_ | refine iteDT (by omega) ?_ | refine iteDF (by omega) ?_ | refine iteNT (by omega) ?_ | refine iteNF (by omega) ?_) | refine ⟨_, rfl, ?_⟩ | refine ⟨_, _, rfl, rfl, ?_⟩ | refine ⟨_, _, rfl, ?_⟩ | refine ⟨rfl, ?_⟩ | refine .inl ⟨_, rfl, ?_⟩ | refine .inr ⟨_, rfl, ?_⟩))
local macro_rules | `(tactic| walk_at "b") => `(tactic| try dsimp (config := { proj := false, iota := false, eta := false, zeta := false }) only)
section
variable {P : Program} {w : World} {K : PySem.W.Frag} {mg : Str → Option Value} {base : Heap} [pf : Sup.PF P fileS]
def sp_law_unlike : Sp := fun vs H Q _ => ∃ (a b a2 b2 : Addr) (d : Nat) (ws fs us ss : List Int) (M : Int) (m : Nat), vs = [.int d, .ref a, .ref b, .ref a2, .ref b2, .int M] ∧ M = m ∧ H a = some (.lst (ws.map V.int)) ∧ H b = some (.lst (fs.map V.int)) ∧ H a2 = some (.lst (us.map V.int)) ∧ H b2 = some (.lst (ss.map V.int)) ∧ GoodR ws ∧ GoodR us ∧ fs.length = ws.length ∧ ss.length = us.length ∧ 1 ≤ d ∧ d ≤ 24 ∧ ws.length ≤ m ∧ us.length ≤ m ∧ m ≤ 900 ∧ ∀ H' p, Same H H' → H p = none → H' p = some (.lst (nV (unlL m (goR (2 ^ (d - 1)) ws fs) (goR (2 ^ (d - 1)) us ss)))) → Q (.ref p) H'
theorem G_law_unlike (T : Top K mg) : FnOk P w K mg base CX0 3 T.f_law_unlike T.fd_law_unlike ["_law_depth", "_law_one", "_law_firsts", "_law_other", "_law_seconds", "_law_many"] sp_law_unlike := by
  refine T.F_law_unlike.ok sc_law_unlike (fun vs H Q E h => by obtain ⟨a, b, a2, b2, d, ws, fs, us, ss, M, m, rfl, _⟩ := h; rfl) (fun cdv A outer s H vs Q E hr h => ?_)
  obtain ⟨a, b, a2, b2, d, ws, fs, us, ss, M, m, rfl, rfl, ha, hb, ha2, hb2, gw, gu, lf, ls, d1, d2, wm, um, hm, q⟩ := h
  refine ⟨_, PSs.nox (pss_cons (ps_asg (pe_tup (pa_cons (pe_call (G_law_gone (P := P) T) (hr.mono (by decide)) (by rfl) T.g_law_gone T.F_law_gone.kp T.b_law_gone .nil pass0 (pa_cons (pv 0) (pa_cons (pv 1) (pa_cons (pv 2) (pa_cons (pv 5) pa_nil))))) (pa_cons (pe_call (G_law_gone (P := P) T) (hr.mono (by decide)) (by rfl) T.g_law_gone T.F_law_gone.kp T.b_law_gone .nil pass0 (pa_cons (pv 0) (pa_cons (pv 3) (pa_cons (pv 4) (pa_cons (pv 5) pa_nil))))) pa_nil))) (k_pgT K rfl (by rfl) (pgs_cons (pg_name (i := 6) sc_law_unlike.nd rfl (by first | exact Or.inl rfl | exact Or.inr rfl)) (pgs_cons (pg_name (i := 7) sc_law_unlike.nd rfl (by first | exact Or.inl rfl | exact Or.inr rfl)) pgs_nil))))
  (pss_one (ps_ret (pe_lc (own := [("_law_spot", 8)]) (g := gName 8) (by rfl) sc_law_unlike.nd (pi_range1 (by rfl) T.n_range (pa_cons (pv 5) pa_nil)) (blkOk_by (own := [("_law_spot", 8)]) (N := N_law_unlike) (sc := defScope s_law_unlike) (by decide +kernel)) (fun _ _ _ _ _ => (pg_name (i := 8) sc_law_unlike.nd rfl (by first | exact Or.inl rfl | exact Or.inr rfl))) (fun _ _ _ _ _ => (pts_one (pt_cmpR op_ne (pe_ix (k_ixL K rfl) (pv 6) (pv 8) (fun _ _ => rfl)) (pe_ix (k_ixL K rfl) (pv 7) (pv 8) (fun _ _ => rfl)) (nomark _)))) (fun _ _ _ _ _ => (pv 8)))))), ?_⟩
  refine ⟨_, rfl, _, rfl, _, rfl, _, rfl, a, b, d, ws, fs, m, rfl, ha, hb, gw, lf, d1, d2, by omega, hm, fun H1 p s1 np hp => ?_⟩
  refine ⟨_, rfl, _, rfl, _, rfl, _, rfl, a2, b2, d, us, ss, m, rfl, s1 _ _ ha2, s1 _ _ hb2, gu, ls, d1, d2, by omega, hm, fun H2 r s2 nr hr => ?_⟩
  have s02 := s1.trans s2
  have hp2 := s2 _ _ hp
  refine ⟨(by show 2 ≤ sizeLine; decide), fun tp ntp => ⟨tp, _, rfl, .inl (.inl upd_same), rfl, _, _, rfl, _, _, rfl, rfl, ?_⟩⟩
  obtain ⟨H3, e3, s3, _⟩ := fresh (.tup [V.ref p, V.ref r]) ntp
  rw [e3]
  have hp3 := s3 _ _ hp2
  have hr3 := s3 _ _ hr
  have s03 := s02.trans s3
  generalize goR (2 ^ (d - 1)) ws fs = f at *
  generalize goR (2 ^ (d - 1)) us ss = g at *
  refine ⟨_, rfl, _, rfl, by omega, by omega, fun D nD => ?_⟩
  rw [Int.toNat_natCast]
  refine lc_selR (lo := 0) (n := m) ((List.range m).map fun i => if (decide (g i ≠ f i)) = true then some (V.int (i : Int)) else none) nD (by rw [List.length_map, List.length_range]) (small4 (by omega)) (fun x => rfl) ?_ ?_
  · intro i o H' hi ho s Qt qt
    rw [List.getElem?_map, List.getElem?_range hi] at ho
    cases ho
    dsimp only at qt
    rw [Int.zero_add]
    refine ⟨_, rfl, _, rfl, p, _, _, _, rfl, rfl, .inl (.inl (s _ _ hp3)), atI_nat (rowZ_get f hi), _, rfl, _, rfl, r, _, _, _, rfl, rfl, .inl (.inl (s _ _ hr3)), atI_nat (rowZ_get g hi), rfl, _, rfl, ?_⟩
    by_cases c : g i = f i
    · rw [decide_eq_false (fun z => z c)] at qt
      exact iteENF c.symm (qt _ (Same.refl _))
    · rw [decide_eq_true c] at qt
      exact iteENT (fun z => c z.symm) ⟨_, rfl, qt _ (Same.refl _)⟩
  · intro H4 s4 hD
    rw [sel_if] at hD
    exact q _ D (s03.trans s4) (s03.free nD) hD
def rows4 (a b c d : List Int) : PyData := .list [rowD a, rowD b, rowD c, rowD d]
theorem rows4_eqv (a b c d : List Int) : PyData.eqv (rows4 a b c d) (rows4 a b c d) = true := by
  unfold rows4 rowD
  simp [PyData.eqv, PyData.eqvAll, eqv_ints]
def sp_law_pair_good : Sp := fun vs H Q _ => ∃ (g a b a2 b2 : Addr) (n d : Nat) (ws fs us ss : List Int), vs = [.ref g, .int d, .ref a, .ref b, .ref a2, .ref b2] ∧ GenAt H g n ∧ n ≤ 10 ^ 9 ∧ H a = some (.lst (ws.map V.int)) ∧ H b = some (.lst (fs.map V.int)) ∧ H a2 = some (.lst (us.map V.int)) ∧ H b2 = some (.lst (ss.map V.int)) ∧ a ≠ g ∧ b ≠ g ∧ a2 ≠ g ∧ b2 ≠ g ∧ GoodR ws ∧ GoodR us ∧ Smp d fs ∧ Smp d ss ∧ fs.length = ws.length ∧ ss.length = us.length ∧ 1 ≤ d ∧ d ≤ 24 ∧ ∀ H', But g H H' → GenAt H' g (n + 100) → Q (.bl true) H'
theorem G_law_pair_good (T : Top K mg) : FnOk P w K mg base CX0 8 T.f_law_pair_good T.fd_law_pair_good ["_law_generator_here", "_law_depth", "_law_one", "_law_firsts", "_law_other", "_law_seconds"] sp_law_pair_good := by
  refine T.F_law_pair_good.ok sc_law_pair_good (fun vs H Q E h => by obtain ⟨g, a, b, a2, b2, n, d, ws, fs, us, ss, rfl, _⟩ := h; rfl) (fun cdv A outer s H vs Q E hr h => ?_)
  obtain ⟨g, a, b, a2, b2, n, d, ws, fs, us, ss, rfl, hG, hn, ha, hb, ha2, hb2, ag, bg, ag2, bg2, gw, gu, sf, ss', lf, ls, d1, d2, q⟩ := h
  refine ⟨_, PSs.nox (pss_cons (ps_set (i := 6) sc_law_pair_good.nd rfl (by first | exact Or.inl rfl | exact Or.inr rfl) (pe_op op_add (pe_callB (k_len K rfl) (by rfl) T.n_len (by decide +kernel) (pa_cons (pv 2) pa_nil)) (pe_callB (k_len K rfl) (by rfl) T.n_len (by decide +kernel) (pa_cons (pv 4) pa_nil))))
  (pss_cons (ps_set (i := 7) sc_law_pair_good.nd rfl (by first | exact Or.inl rfl | exact Or.inr rfl) (pe_call (G_law_unlike (P := P) T) (hr.mono (by decide)) (by rfl) T.g_law_unlike T.F_law_unlike.kp T.b_law_unlike .nil pass0 (pa_cons (pv 1) (pa_cons (pv 2) (pa_cons (pv 3) (pa_cons (pv 4) (pa_cons (pv 5) (pa_cons (pe_op op_add (pe_op op_add (pe_op op_mul (pv 1) (pv 6)) (pv 6)) pe_int) pa_nil))))))))
  (pss_cons (ps_set (i := 8) sc_law_pair_good.nd rfl (by first | exact Or.inl rfl | exact Or.inr rfl) (pe_lst (pa_cons (pe_callTy (k_listOf K rfl) (by rfl) T.n_list (by decide +kernel) (pa_cons (pv 2) pa_nil)) (pa_cons (pe_callTy (k_listOf K rfl) (by rfl) T.n_list (by decide +kernel) (pa_cons (pv 3) pa_nil)) (pa_cons (pe_callTy (k_listOf K rfl) (by rfl) T.n_list (by decide +kernel) (pa_cons (pv 4) pa_nil)) (pa_cons (pe_callTy (k_listOf K rfl) (by rfl) T.n_list (by decide +kernel) (pa_cons (pv 5) pa_nil)) pa_nil))))))
  (pss_cons (ps_set (i := 9) sc_law_pair_good.nd rfl (by first | exact Or.inl rfl | exact Or.inr rfl) (pe_lst (pa_cons (pe_call (G_first_parted (P := P) T) (hr.mono (by decide)) (by rfl) T.g_first_parted T.F_first_parted.kp T.b_first_parted .nil passL (pa_cons (pv 1) (pa_cons (pe_ix (k_ixL K rfl) (pv 8) pe_int (fun _ _ => rfl)) (pa_cons (pe_ix (k_ixL K rfl) (pv 8) pe_int (fun _ _ => rfl)) (pa_cons (pe_ix (k_ixL K rfl) (pv 8) pe_int (fun _ _ => rfl)) (pa_cons (pe_ix (k_ixL K rfl) (pv 8) pe_int (fun _ _ => rfl)) pa_nil)))))) pa_nil)))
  (pss_cons (ps_set (i := 9) sc_law_pair_good.nd rfl (by first | exact Or.inl rfl | exact Or.inr rfl) (pe_op op_cat (pv 9) (pe_lst (pa_cons (pe_call (G_first_parted (P := P) T) (hr.mono (by decide)) (by rfl) T.g_first_parted T.F_first_parted.kp T.b_first_parted .nil passL (pa_cons (pv 1) (pa_cons (pv 4) (pa_cons (pv 5) (pa_cons (pv 2) (pa_cons (pv 3) pa_nil)))))) (pa_cons (pe_call (G_alike_from (P := P) T) (hr.mono (by decide)) (by rfl) T.g_alike_from T.F_alike_from.kp T.b_alike_from .nil passL (pa_cons (pv 1) (pa_cons (pv 2) (pa_cons (pv 3) (pa_cons (pv 4) (pa_cons (pv 5) pa_nil)))))) pa_nil)))))
  (pss_cons (ps_if (PW.pt (pw_or (pt_cmpR (k_neD K rfl hr.units) (pv 8) (pe_lst (pa_cons (pv 2) (pa_cons (pv 3) (pa_cons (pv 4) (pa_cons (pv 5) pa_nil))))) (nomark _)) (pw_or1 (pt_cmpR (k_neD K rfl hr.units) (pe_slice (k_slL K rfl) (pv 9) po_none (po_some pe_int)) (pe_op op_rep (pe_lst (pa_cons (pe_ix (k_ixL K rfl) (pe_op op_cat (pv 7) (pe_lst (pa_cons pe_non pa_nil))) pe_int (fun _ _ => rfl)) pa_nil)) pe_int) (nomark _)))))
    (pss_one (ps_ret pe_bl))
    pss_nil)
  (pss_cons (ps_if (pt_cmpR (k_eqD K rfl hr.units) (pe_lc (own := [("_law_spot", 13)]) (g := gName 13) (by rfl) sc_law_pair_good.nd (k_piL K rfl (pv 7)) (blkOk_by (own := [("_law_spot", 13)]) (N := N_law_pair_good) (sc := defScope s_law_pair_good) (by decide +kernel)) (fun _ _ _ _ _ => (pg_name (i := 13) sc_law_pair_good.nd rfl (by first | exact Or.inl rfl | exact Or.inr rfl))) (fun _ _ _ _ _ => (pts_one (pt_cmpR op_ge (pv 13) (pe_op op_mul (pv 1) (pv 6)) (nomark _)))) (fun _ _ _ _ _ => (pv 13))) (pe_lst pa_nil) (nomark _))
    (pss_one (ps_ret (pe_cmpR op_eq (pe_ix (k_ixL K rfl) (pv 9) pe_int (fun _ _ => rfl)) (pe_ifExp (pt_cmpR (k_neD K rfl hr.units) (pv 7) (pe_lst pa_nil) (nomark _)) (pe_op op_add (pe_ix (k_ixL K rfl) (pv 7) (pe_un un_neg pe_int) (fun _ _ => rfl)) pe_int) pe_int) (nomark _))))
    pss_nil)
  (pss_cons (ps_set (i := 10) sc_law_pair_good.nd rfl (by first | exact Or.inl rfl | exact Or.inr rfl) (pe_call (G_law_random (P := P) T) (hr.mono (by decide)) (by rfl) T.g_law_random T.F_law_random.kp T.b_law_random .nil pass0 (pa_cons (pv 0) (pa_cons (pe_op op_powW pe_int pe_int) pa_nil))))
  (pss_cons (ps_setLc (i := 11) (own := [("_law_turn", 12)]) (g := gName 12) (tt := tYes) (by rfl) sc_law_pair_good.nd rfl rfl (sw_true rfl rfl rfl (by decide +kernel)) (pi_range1 (by rfl) T.n_range (pa_cons (pv 6) pa_nil)) (blkOk_by (own := [("_law_turn", 12)]) (N := N_law_pair_good) (sc := defScope s_law_pair_good) (by decide +kernel)) (fun _ _ _ _ _ => (pg_name (i := 12) sc_law_pair_good.nd rfl (by first | exact Or.inl rfl | exact Or.inr rfl))) (fun _ _ _ _ _ => pts_nil) (fun _ _ _ _ _ => (pe_call (G_sample_at (P := P) T) (hr.mono (by decide)) (by rfl) T.g_sample_at T.F_sample_at.kp T.b_sample_at .nil passL (pa_cons (pv 1) (pa_cons (pv 2) (pa_cons (pv 3) (pa_cons (pe_op op_add (pv 10) (pv 12)) pa_nil)))))))
  (pss_one (ps_ret (pe_and (pe_cmpR op_isN (pe_ix (k_ixL K rfl) (pv 9) pe_int (fun _ _ => rfl)) pe_non (nomark _)) (pe_one (pe_cmpR (k_neD K rfl hr.units) (pv 11) (pe_lc (own := [("_law_turn", 12)]) (g := gName 12) (tt := tYes) (by rfl) sc_law_pair_good.nd (pi_range1 (by rfl) T.n_range (pa_cons (pv 6) pa_nil)) (blkOk_by (own := [("_law_turn", 12)]) (N := N_law_pair_good) (sc := defScope s_law_pair_good) (by decide +kernel)) (fun _ _ _ _ _ => (pg_name (i := 12) sc_law_pair_good.nd rfl (by first | exact Or.inl rfl | exact Or.inr rfl))) (fun _ _ _ _ _ => pts_nil) (fun _ _ _ _ _ => (pe_call (G_sample_at (P := P) T) (hr.mono (by decide)) (by rfl) T.g_sample_at T.F_sample_at.kp T.b_sample_at .nil passL (pa_cons (pv 1) (pa_cons (pv 4) (pa_cons (pv 5) (pa_cons (pe_op op_add (pv 10) (pv 12)) pa_nil))))))) (nomark _))))))))))))))), ?_⟩
  have hws := gw.1
  have hus := gu.1
  refine ⟨_, rfl, a, _, rfl, .inl (.inl (.inl ha)), _, rfl, a2, _, rfl, .inl (.inl (.inl ha2)), _, _, rfl, rfl, ?_⟩
  dsimp only
  rw [List.length_map, List.length_map, ← Int.natCast_add]
  have dm : d * (ws.length + us.length) ≤ 24 * 16 := Nat.mul_le_mul d2 (by omega)
  have dm2 : ws.length + us.length ≤ (d + 1) * (ws.length + us.length) := Nat.le_mul_of_pos_left _ (by omega)
  have dm3 : (d + 1) * (ws.length + us.length) = d * (ws.length + us.length) + (ws.length + us.length) := Nat.succ_mul _ _
  refine ⟨_, rfl, _, rfl, _, rfl, _, rfl, _, rfl, _, rfl, _, rfl, _, _, rfl, rfl, .inl ⟨by omega, by omega⟩, _, rfl, _, _, rfl, rfl, _, _, rfl, rfl, a, b, a2, b2, d, ws, fs, us, ss, _, d * (ws.length + us.length) + (ws.length + us.length) + 9, rfl, by rw [← Int.natCast_mul]; omega, ha, hb, ha2, hb2, gw, gu, lf, ls, d1, d2, by omega, by omega, by omega, fun H1 S s1 nS hS => ?_⟩
  have hf := unl_on d1 lf ls sf ss' (p := 0)
  have hbk := fun p => unl_back d1 lf ls sf ss' (p := p)
  have hon := fun p => unl_on d1 lf ls sf ss' (p := p)
  refine ⟨_, rfl, a, _, rfl, .inl (.inl (.inl (s1 _ _ ha))), fun c1 nc1 => ?_⟩
  obtain ⟨H2, e2, s2, hc1⟩ := fresh (.lst (ws.map V.int)) nc1
  rw [e2]
  have s02 := s1.trans s2
  refine ⟨_, rfl, b, _, rfl, .inl (.inl (.inl (s02 _ _ hb))), fun c2 nc2 => ?_⟩
  obtain ⟨H3, e3, s3, hc2⟩ := fresh (.lst (fs.map V.int)) nc2
  rw [e3]
  have s03 := s02.trans s3
  refine ⟨_, rfl, a2, _, rfl, .inl (.inl (.inl (s03 _ _ ha2))), fun c3 nc3 => ?_⟩
  obtain ⟨H4, e4, s4, hc3⟩ := fresh (.lst (us.map V.int)) nc3
  rw [e4]
  have s04 := s03.trans s4
  refine ⟨_, rfl, b2, _, rfl, .inl (.inl (.inl (s04 _ _ hb2))), fun c4 nc4 => ?_⟩
  obtain ⟨H5, e5, s5, hc4⟩ := fresh (.lst (ss.map V.int)) nc4
  rw [e5]
  have s05 := s04.trans s5
  refine ⟨(by show 4 ≤ sizeLine; decide), fun gv ngv => ?_⟩
  obtain ⟨H6, e6, s6, hgv⟩ := fresh (.lst [V.ref c1, V.ref c2, V.ref c3, V.ref c4]) ngv
  rw [e6]
  have s06 := s05.trans s6
  have hc1 := s6 _ _ (s5 _ _ (s4 _ _ (s3 _ _ hc1)))
  have hc2 := s6 _ _ (s5 _ _ (s4 _ _ hc2))
  have hc3 := s6 _ _ (s5 _ _ hc3)
  have hc4 := s6 _ _ hc4
  have hS6 := s6 _ _ (s5 _ _ (s4 _ _ (s3 _ _ (s2 _ _ hS))))
  refine ⟨_, rfl, _, rfl, gv, _, _, _, rfl, rfl, .inl (.inl hgv), atI_nat (j := 0) rfl, _, rfl, gv, _, _, _, rfl, rfl, .inl (.inl hgv), atI_nat (j := 1) rfl, _, rfl, gv, _, _, _, rfl, rfl, .inl (.inl hgv), atI_nat (j := 2) rfl, _, rfl, gv, _, _, _, rfl, rfl, .inl (.inl hgv), atI_nat (j := 3) rfl, _, _, _, _, _, rfl,
    .inl ⟨d, rfl, d1, d2, .inl ⟨c1, ws, rfl, hc1, gw, .inl ⟨c2, fs, rfl, hc2, sf, lf, .inl ⟨c3, us, rfl, hc3, gu, .inl ⟨c4, ss, rfl, hc4, ss', ls, fun H7 s7 => ?_⟩⟩⟩⟩⟩⟩
  refine ⟨(by show 1 ≤ sizeLine; decide), fun t1 nt1 => ?_⟩
  obtain ⟨H8, e8, s8, ht1⟩ := fresh (.lst [headV (unlL (ws.length + us.length) (goR (2 ^ (d - 1)) ws fs) (goR (2 ^ (d - 1)) us ss))]) nt1
  rw [e8]
  have s08 := (s06.trans s7).trans s8
  refine ⟨_, rfl, _, rfl, _, rfl, _, rfl, _, rfl, _, rfl, _, _, _, _, _, rfl,
    .inl ⟨d, rfl, d1, d2, .inl ⟨a2, us, rfl, s08 _ _ ha2, gu, .inl ⟨b2, ss, rfl, s08 _ _ hb2, ss', ls, .inl ⟨a, ws, rfl, s08 _ _ ha, gw, .inl ⟨b, fs, rfl, s08 _ _ hb, sf, lf, fun H9 s9 => ?_⟩⟩⟩⟩⟩⟩
  have s09 := s08.trans s9
  refine ⟨_, rfl, _, rfl, _, rfl, _, rfl, _, rfl, _, _, _, _, _, rfl,
    .inl ⟨d, rfl, d1, d2, .inl ⟨a, ws, rfl, s09 _ _ ha, gw, .inl ⟨b, fs, rfl, s09 _ _ hb, sf, lf, .inl ⟨a2, us, rfl, s09 _ _ ha2, gu, .inl ⟨b2, ss, rfl, s09 _ _ hb2, ss', ls, fun H10 s10 => ?_⟩⟩⟩⟩⟩⟩
  generalize ef : goR (2 ^ (d - 1)) ws fs = f at *
  generalize eh : goR (2 ^ (d - 1)) us ss = h at *
  have s010 := s09.trans s10
  have e21 : headV (unlL (us.length + ws.length) h f) = headV (unlL (ws.length + us.length) f h) := by rw [unlL_swap, Nat.add_comm]
  rw [e21]
  have hc : headV (unlL (d * (ws.length + us.length) + (ws.length + us.length) + 9) f h) = headV (unlL (ws.length + us.length) f h) := headV_cut (by omega) fun z i => hf (fun t ht => by rw [Nat.zero_add]; exact z t ht) i (Nat.zero_le _)
  refine ⟨(by show 2 ≤ sizeLine; decide), fun t2 nt2 => ?_⟩
  generalize eo : headV (unlL (ws.length + us.length) f h) = hv at *
  obtain ⟨H11, e11, s11, ht2⟩ := fresh (.lst [hv, alkV (unlL ((d + 1) * (ws.length + us.length)) f h) (d * (ws.length + us.length))]) nt2
  rw [e11]
  refine ⟨t1, t2, _, _, rfl, rfl, s11 _ _ (s10 _ _ (s9 _ _ ht1)), ht2, (by show 3 ≤ sizeLine; decide), fun t3 nt3 => ?_⟩
  obtain ⟨H12, e12, s12, ht3⟩ := fresh (.lst [hv, hv, alkV (unlL ((d + 1) * (ws.length + us.length)) f h) (d * (ws.length + us.length))]) nt3
  rw [show upd H11 t3 (.lst ([hv] ++ [hv, alkV (unlL ((d + 1) * (ws.length + us.length)) f h) (d * (ws.length + us.length))])) = H12 from e12]
  have s612 := ((((s7.trans s8).trans s9).trans s10).trans s11).trans s12
  have s012 := s06.trans s612
  refine ⟨_, rfl, _, rfl, _, rfl, _, rfl, _, rfl, (by show 4 ≤ sizeLine; decide), fun pl npl => ?_⟩
  obtain ⟨H13, e13, s13, hpl⟩ := fresh (.lst [V.ref a, V.ref b, V.ref a2, V.ref b2]) npl
  rw [e13]
  have s013 := s012.trans s13
  have s613 := s612.trans s13
  have row : ∀ {c : Addr} {ks : List Int}, H13 c = some (.lst (ks.map V.int)) → Dp K H13 (.ref c) (rowD ks) := fun k => .lst (.inl (.inl k)) (Pre.dp_ints _)
  refine ⟨rows4 ws fs us ss, rows4 ws fs us ss, .lst (.inl (.inl (s613 _ _ hgv))) (.cons (row (s613 _ _ hc1)) (.cons (row (s613 _ _ hc2)) (.cons (row (s613 _ _ hc3)) (.cons (row (s613 _ _ hc4)) .nil)))), .lst (.inl (.inl hpl)) (.cons (row (s013 _ _ ha)) (.cons (row (s013 _ _ hb)) (.cons (row (s013 _ _ ha2)) (.cons (row (s013 _ _ hb2)) .nil)))), rows_shaped [ws, fs, us, ss], rows_shaped [ws, fs, us, ss], _, rfl, ?_⟩
  rw [rows4_eqv]
  refine iteF ?_
  have ht3 := s13 _ _ ht3
  have hS13 := s613 _ _ hS6
  refine ⟨_, rfl, _, rfl, t3, _, rfl, .inl (.inl ht3), fun t4 nt4 => ?_⟩
  obtain ⟨H14, e14, s14, ht4⟩ := fresh (.lst [hv, hv]) nt4
  rw [show upd H13 t4 (.lst (cutV [hv, hv, alkV (unlL ((d + 1) * (ws.length + us.length)) f h) (d * (ws.length + us.length))] none (some 2))) = H14 from e14]
  refine ⟨_, rfl, (by show 1 ≤ sizeLine; decide), fun z1 nz1 => ?_⟩
  obtain ⟨H15, e15, s15, hz1⟩ := fresh (.lst [V.non]) nz1
  rw [e15]
  have hS15 := s15 _ _ (s14 _ _ hS13)
  have Sl := unlL_len (d * (ws.length + us.length) + (ws.length + us.length) + 9) f h
  generalize eL : unlL (d * (ws.length + us.length) + (ws.length + us.length) + 9) f h = L at *
  refine ⟨S, z1, _, _, rfl, rfl, hS15, hz1, by rw [nV_len, sizeLine_eq]; show _ + 1 ≤ _; omega, fun z2 nz2 => ?_⟩
  obtain ⟨H16, e16, s16, hz2⟩ := fresh (.lst (nV L ++ [V.non])) nz2
  rw [e16]
  refine ⟨z2, _, _, _, rfl, rfl, .inl (.inl hz2), atI_nat (headV_at L), (by show 1 ≤ sizeLine; decide), fun z3 nz3 => ?_⟩
  rw [hc]
  obtain ⟨H17, e17, s17, hz3⟩ := fresh (.lst [hv]) nz3
  rw [e17]
  refine ⟨z3, _, _, rfl, rfl, hz3, by decide, by decide, (by show 1 * 2 ≤ sizeLine; decide), fun z4 nz4 => ?_⟩
  obtain ⟨H18, e18, s18, hz4⟩ := fresh (.lst [hv, hv]) nz4
  rw [show upd H17 z4 (.lst (List.replicate (Int.toNat 2) [hv]).flatten) = H18 from e18]
  have s1418 := ((s15.trans s16).trans s17).trans s18
  have dh : ∀ {p : Addr}, H18 p = some (.lst [hv, hv]) → Dp K H18 (.ref p) (.list [headD L, headD L]) := fun k => by rw [← hc] at k; exact .lst (.inl (.inl k)) (.cons (headD_dp L) (.cons (headD_dp L) .nil))
  refine ⟨_, _, dh (s1418 _ _ ht4), dh hz4, headD_shaped L, headD_shaped L, _, rfl, ?_⟩
  rw [headD_eqv]
  refine iteF ?_
  have s1318 := s14.trans s1418
  have s018 := s013.trans s1318
  have hS18 := s1318 _ _ hS13
  have ht18 := s1318 _ _ ht3
  refine ⟨_, rfl, S, rfl, ⟨_, .inl (.inl hS18)⟩, fun D nD => ?_⟩
  refine lc_selL (K := K) (xs := nV L) (L.map fun i => if decide (d * (ws.length + us.length) ≤ i) = true then some (V.int (i : Int)) else none) nD (.inl (.inl hS18)) (by rw [List.length_map, nV_len]) (by rw [nV_len]; exact small4 (by omega)) (fun x => rfl) ?_ ?_
  · intro i x o H' hx ho s Qt qt
    unfold nV at hx
    rw [List.getElem?_map] at hx ho
    obtain ⟨j, hj, rfl⟩ := Option.map_eq_some_iff.mp hx
    rw [hj] at ho
    cases ho
    dsimp only at qt
    refine ⟨_, rfl, _, rfl, _, rfl, _, _, rfl, rfl, .inl ⟨by omega, by omega⟩, _, _, rfl, rfl, _, rfl, ?_⟩
    dsimp only
    rw [← Int.natCast_mul]
    by_cases c : d * (ws.length + us.length) ≤ j
    · rw [decide_eq_true c] at qt
      exact iteDT (by omega) ⟨_, rfl, qt _ (Same.refl _)⟩
    · rw [decide_eq_false c] at qt
      exact iteDF (by omega) (qt _ (Same.refl _))
  · intro H19 s19 hD
    rw [sel_if] at hD
    have hD2 : H19 D = some (.lst (((L.filter fun i => decide (d * (ws.length + us.length) ≤ i)).map fun i : Nat => (i : Int)).map V.int)) := by rw [List.map_map]; exact hD
    refine ⟨Nat.zero_le _, fun em nem => ?_⟩
    obtain ⟨H20, e20, s20, hem⟩ := fresh (.lst ([] : List V)) nem
    rw [e20]
    refine eqD_lst (ms := []) (.inl (.inl (s20 _ _ hD2))) (.inl (.inl hem)) ⟨_, rfl, ?_⟩
    have s1820 := s19.trans s20
    have ht20 := s1820 _ _ ht18
    have hS20 := s1820 _ _ hS18
    have s020 := s018.trans s1820
    by_cases c : L.filter (fun i => decide (d * (ws.length + us.length) ≤ i)) = []
    · refine iteDT (by rw [c]; rfl) ?_
      rw [← eL] at c
      have hk := alk_near (n := (d + 1) * (ws.length + us.length)) (m := d * (ws.length + us.length) + (ws.length + us.length) + 9) (f := f) (g := h) (by omega) (by omega) c
      rw [eL] at hk
      rw [hk] at ht20
      refine ⟨_, rfl, t3, _, _, _, rfl, rfl, .inl (.inl ht20), atI_nat (j := 2) rfl, ?_⟩
      refine ⟨_, rfl, Nat.zero_le _, fun em2 nem2 => ?_⟩
      obtain ⟨H21, e21', s21, hem2⟩ := fresh (.lst ([] : List V)) nem2
      rw [e21']
      have hS21 := s21 _ _ hS20
      have hS21' := hS21
      rw [nV_ints] at hS21'
      refine neD_lst (ms := []) (.inl (.inl hS21')) (.inl (.inl hem2)) ⟨_, rfl, ?_⟩
      have fin := q _ (But.of (s020.trans s21)) ((hG.same (s020.trans s21)).mono (by omega))
      cases eG : L.getLast? with
      | none =>
        obtain rfl := List.getLast?_eq_none_iff.mp eG
        refine iteNF rfl ⟨rfl, ?_⟩
        exact fin
      | some i =>
        have hne : L ≠ [] := fun e => by rw [e] at eG; cases eG
        refine iteNT (fun e => hne (List.map_eq_nil_iff.mp e)) ?_
        refine ⟨_, rfl, _, rfl, S, _, _, _, rfl, rfl, .inl (.inl hS21), last_at eG, _, _, rfl, rfl, rfl, ?_⟩
        rw [decide_eq_true rfl]
        exact fin
    · refine iteDF (fun e => c (List.map_eq_nil_iff.mp e)) ?_
      obtain ⟨i0, hi0⟩ := List.exists_mem_of_ne_nil _ c
      rw [← eL] at hi0
      have hi1 := of_decide_eq_true (List.mem_filter.mp hi0).2
      obtain ⟨hi2, hi3⟩ := unlL_mem.mp (List.mem_filter.mp hi0).1
      have far : ∀ p, ¬ ∀ t, t < ws.length + us.length → f (p + t) = h (p + t) := fun p z => hi3 (hbk p z i0 hi1)
      have hk : alkV (unlL ((d + 1) * (ws.length + us.length)) f h) (d * (ws.length + us.length)) = .non := by
        have := far (d * (ws.length + us.length))
        refine Classical.byContradiction fun hn => this fun t ht => Classical.byContradiction fun hne => hn (alk_far (by omega) (by omega) hne)
      rw [hk] at ht20
      refine ⟨_, rfl, _, _, rfl, rfl, ⟨by decide, by decide +kernel⟩, g, _, _, rfl, hG.same s020, by omega, by decide, by decide +kernel, fun x H21 x0 x1 g21 b21 => ?_⟩
      obtain ⟨fr, rfl⟩ : ∃ k : Nat, x = (k : Int) := ⟨x.toNat, by omega⟩
      have hfr : fr < 10 ^ 17 := by
        have : ((fr : Nat) : Int) < ((10 ^ 17 : Nat) : Int) := x1
        omega
      have b021 := (But.of s020).trans b21
      have ha21 := b021 _ _ ag ha
      have hb21 := b021 _ _ bg hb
      have ha221 := b021 _ _ ag2 ha2
      have hb221 := b021 _ _ bg2 hb2
      have t3g : t3 ≠ g := (hG.same (s010.trans s11)).ne nt3
      have ht21 := b21 _ _ t3g ht20
      have oz : ws.length + us.length ≤ 16 := by omega
      refine ⟨_, rfl, _, rfl, by omega, by omega, fun D1 nD1 => ?_⟩
      rw [Int.toNat_natCast]
      refine lc_mapR (lo := 0) (n := ws.length + us.length) (rowZ (ws.length + us.length) fun t => f (fr + t)) nD1 (rowZ_len _ _) (small4 (by omega)) (fun x => rfl) ?_ ?_
      · intro k y H' hk hy s Qt qt
        rw [rowZ_get _ hk] at hy
        cases hy
        rw [Int.zero_add]
        exact ⟨_, rfl, _, rfl, _, rfl, _, rfl, _, rfl, _, _, rfl, rfl, _, _, _, _, rfl, .inl ⟨d, rfl, d1, d2, .inl ⟨a, ws, rfl, s _ _ ha21, gw, .inl ⟨b, fs, rfl, s _ _ hb21, sf, lf, .inl ⟨fr + k, rfl, by omega, fun H'' s'' => by rw [ef]; exact qt _ s''⟩⟩⟩⟩⟩
      · intro H22 s22 hD1
        refine ⟨_, rfl, t3, _, _, _, rfl, rfl, .inl (.inl (s22 _ _ ht21)), atI_nat (j := 2) rfl, rfl, _, rfl, iteDT rfl ?_⟩
        refine ⟨_, rfl, _, rfl, _, rfl, by omega, by omega, fun D2 nD2 => ?_⟩
        rw [Int.toNat_natCast]
        refine lc_mapR (lo := 0) (n := ws.length + us.length) (rowZ (ws.length + us.length) fun t => h (fr + t)) nD2 (rowZ_len _ _) (small4 (by omega)) (fun x => rfl) ?_ ?_
        · intro k y H' hk hy s Qt qt
          rw [rowZ_get _ hk] at hy
          cases hy
          rw [Int.zero_add]
          exact ⟨_, rfl, _, rfl, _, rfl, _, rfl, _, rfl, _, _, rfl, rfl, _, _, _, _, rfl, .inl ⟨d, rfl, d1, d2, .inl ⟨a2, us, rfl, s _ _ (s22 _ _ ha221), gu, .inl ⟨b2, ss, rfl, s _ _ (s22 _ _ hb221), ss', ls, .inl ⟨fr + k, rfl, by omega, fun H'' s'' => by rw [eh]; exact qt _ s''⟩⟩⟩⟩⟩
        · intro H23 s23 hD2'
          have hD1' := s23 _ _ hD1
          rw [rowZ_ints] at hD1' hD2'
          refine neD_lst (.inl (.inl hD1')) (.inl (.inl hD2')) ?_
          rw [decide_eq_false (fun e => far fr fun t ht => by
            have := congrArg (fun l : List Int => l.getD t 0) e
            rwa [row_getD ht, row_getD ht] at this)]
          exact q _ ((b021.same s22).same s23) (((g21.same s22).same s23).mono (by omega))
end
end My

namespace My
open PySem PySem.Spec PyProof.Rows L2 Pre
/-! ### the law of rows alike for ever -/
theorem goR_of {h : Int} (hh : 0 < h) {ws fs : List Int} (hl : fs.length = ws.length) {r : Nat → Int} (hr : Fol (2 * h) ws r) (rr : ∀ i, -h ≤ r i ∧ r i < h) (hf : ∀ i, i < ws.length → fs.getD i 0 = r i) (n : Nat) : goR h ws fs n = r n := by
  have hfs : ∀ x ∈ fs, -h ≤ x ∧ x < h := fun x hx => by
    obtain ⟨i, hi, rfl⟩ := List.mem_iff_getElem.mp hx
    have := hf i (by omega)
    rw [List.getD_eq_getElem?_getD, List.getElem?_eq_getElem hi] at this
    exact (show fs[i] = r i from this) ▸ rr i
  have hz : ∀ i, 0 ≤ i → 2 * h ∣ goR h ws fs i - r i := fun i hi => by
    refine fol_zero (ws := ws) (r := fun i => goR h ws fs i - r i) (p := 0) (fun j => ?_) (fun t ht => ?_) i hi
    · have := Int.dvd_sub (goR_fol hh hl j) (hr j)
      have e : (sumN ws.length fun b => ws.getD b 0 * (goR h ws fs (j + ws.length - 1 - b) - r (j + ws.length - 1 - b))) = (sumN ws.length fun b => ws.getD b 0 * goR h ws fs (j + ws.length - 1 - b)) - sumN ws.length fun b => ws.getD b 0 * r (j + ws.length - 1 - b) := by
        rw [Int.sub_eq_add_neg, ← Int.neg_one_mul, ← sumN_mul, ← sumN_add]
        refine sumN_congr fun p _ => ?_
        rw [Int.neg_one_mul, ← Int.sub_eq_add_neg, Int.mul_sub]
      rw [e]
      rw [show ∀ a b c d : Int, a - b - (c - d) = a - c - (b - d) from fun a b c d => by omega] at this
      exact this
    · rw [Nat.zero_add, goR_first (by omega), hf t ht, Int.sub_self]
      exact Int.dvd_zero _
  exact alike_of (goR_range hh hfs n) (rr n) (hz n (Nat.zero_le n))
theorem goodS {l : List Int} {c : Nat} (h8 : l.length ≤ 8) (hc : c ≤ 32768) (h : ∀ x ∈ l, x.natAbs ≤ c) : GoodR l := ⟨h8, fun w hw => Nat.le_trans (h w hw) hc⟩
theorem two_of {α : Type} {l : List α} (h : l.length = 2) : ∃ a b, l = [a, b] := by
  match l, h with
  | [a, b], _ => exact ⟨a, b, rfl⟩
/-- two rules in a list -/
def Pr (g : Addr) (x : V) (H : Hp) : Prop := ∃ (r u v : Addr) (ws us : List Int), x = .ref r ∧ H r = some (.lst [.ref u, .ref v]) ∧ H u = some (.lst (ws.map V.int)) ∧ H v = some (.lst (us.map V.int)) ∧ GoodR ws ∧ GoodR us ∧ r ≠ g ∧ u ≠ g ∧ v ≠ g
theorem Pr.but {g : Addr} {x : V} {H H' : Hp} (h : Pr g x H) (b : But g H H') : Pr g x H' := by
  obtain ⟨r, u, v, ws, us, e, hr, hu, hv, gw, gu, rg, ug, vg⟩ := h
  exact ⟨r, u, v, ws, us, e, b _ _ rg hr, b _ _ ug hu, b _ _ vg hv, gw, gu, rg, ug, vg⟩
/-- a comprehension over a list that draws and makes things told of by R -/
theorem lc_drawLW {K : PySem.W.Frag} {a : Addr} {xs : List V} {j : Nat} {te : TE} {vs : List Nat} {σ : L2.St} {H1 : Hp} {D : Addr} {Qd : Hp → Prop} (g : Addr) (m step : Nat) (R : Nat → V → Hp → Prop) (nD : H1 D = none) (hG : GenAt H1 g m) (hA : H1 a = some (.lst xs)) (ag : a ≠ g) (hz : xs.length < sizeLine)
    (mono : ∀ (i : Nat) (y : V) (H H' : Hp), (∀ b o, b ≠ D → b ≠ g → H b = some o → H' b = some o) → R i y H → R i y H') (hw : ∀ x, wipe ((wipe σ vs).set j (some x)) vs = wipe σ vs)
    (hs : ∀ (i : Nat) (x : V) (H' : Hp) (zs : List V), xs[i]? = some x → But g H1 H' → GenAt H' g (m + step * i) → H' D = some (.lst zs) → ∀ Qt : V → Hp → Prop, (∀ (y : V) H'', R i y H'' → But g H' H'' → GenAt H'' g (m + step * (i + 1)) → Qt y H'') → te ((wipe σ vs).set j (some x)) H' Qt)
    (hd : ∀ H' (ys : List V), But g H1 H' → GenAt H' g (m + step * xs.length) → H' D = some (.lst ys) → ys.length = xs.length → (∀ i y, ys[i]? = some y → R i y H') → Qd H') :
    ∃ W : Nat → Nat → Hp → Prop, (∃ m, W 0 m (upd H1 D (.lst []))) ∧ ∀ i m H, W i m H →
      ((Itl K a).stop i H ∧ Qd H) ∨ ((Itl K a).go i H ∧ ∃ Nx : Hp → Prop, (∀ H', Nx H' → ∃ m', m' < m ∧ W (i + 1) m' H') ∧ ∀ x H', (Itl K a).yld i H x H' → gName j x (wipe σ vs) H' fun σ2 H2 => wipe σ2 vs = wipe σ vs ∧ tYes σ2 H2 fun b H3 =>
        if b = true then te σ2 H3 fun y H4 => ∃ acc, H4 D = some (.lst acc) ∧ acc.length < sizeLine ∧ Nx (upd H4 D (.lst (acc ++ [y]))) else Nx H3) := by
  have nDg : D ≠ g := hG.ne nD
  have aD : a ≠ D := ne_of_none hA nD
  refine lc_list (K := K) (a := a) (xs := xs) (fun i H => ∃ ys : List V, But g H1 H ∧ GenAt H g (m + step * i) ∧ H D = some (.lst ys) ∧ ys.length = i ∧ ∀ k y, ys[k]? = some y → R k y H)
    ⟨[], But.of (same_upd nD), hG.same (same_upd nD), upd_same, rfl, (fun _ _ h => nomatch h)⟩ (fun i H _ ⟨_, b, _⟩ => .inl (.inl (b _ _ ag hA))) ?_ ?_
  · rintro i x H hx ⟨ys, b, hg, hD, hl, hR⟩
    have hil := (List.getElem?_eq_some_iff.mp hx).1
    refine ⟨hw _, ?_⟩
    unfold tYes
    dsimp only
    rw [if_pos (show true = true from rfl)]
    refine hs i x H ys hx b hg hD _ fun y H4 r4 b4 g4 => ?_
    have hD4 := b4 _ _ nDg hD
    refine ⟨ys, hD4, by omega, ys ++ [y], ?_, ?_, upd_same, by rw [List.length_append, hl]; rfl, fun k z hz => ?_⟩
    · intro c o nc hc
      rw [upd_ne (ne_of_none hc nD)]
      exact b4 c o nc (b c o nc hc)
    · obtain ⟨x', y', z', e1, e2, e3⟩ := g4
      exact ⟨x', y', z', by rw [upd_ne nDg.symm]; exact e1, e2, e3⟩
    · by_cases hk : k < ys.length
      · rw [List.getElem?_append_left hk] at hz
        exact mono k z H _ (fun c o nc ng hc => by rw [upd_ne nc]; exact b4 c o ng hc) (hR k z hz)
      · have hk2 : k = ys.length := by
          have := (List.getElem?_eq_some_iff.mp hz).1
          rw [List.length_append] at this
          simp at this
          omega
        subst hk2
        rw [List.getElem?_append_right (Nat.le_refl _), Nat.sub_self] at hz
        cases hz
        rw [hl]
        exact mono i y H4 _ (fun c o nc ng hc => by rw [upd_ne nc]; exact hc) r4
  · rintro H ⟨ys, b, hg, hD, hl, hR⟩
    exact hd H ys b (hl ▸ hg) hD hl hR
/-- a comprehension over a range that draws and makes things told of by R -/
theorem lc_drawW {lo : Int} {n : Nat} {j : Nat} {te : TE} {vs : List Nat} {σ : L2.St} {H1 : Hp} {D : Addr} {Qd : Hp → Prop} (g : Addr) (m step : Nat) (R : V → Hp → Prop) (nD : H1 D = none) (hG : GenAt H1 g m) (hz : n < sizeLine)
    (mono : ∀ (y : V) (H H' : Hp), (∀ b o, b ≠ D → b ≠ g → H b = some o → H' b = some o) → R y H → R y H') (hw : ∀ x, wipe ((wipe σ vs).set j (some x)) vs = wipe σ vs)
    (hs : ∀ (i : Nat) (H' : Hp) (zs : List V), i < n → But g H1 H' → GenAt H' g (m + step * i) → H' D = some (.lst zs) → ∀ Qt : V → Hp → Prop, (∀ (y : V) H'', R y H'' → But g H' H'' → GenAt H'' g (m + step * (i + 1)) → Qt y H'') → te ((wipe σ vs).set j (some (.int (lo + (i : Int))))) H' Qt)
    (hd : ∀ H' (ys : List V), But g H1 H' → GenAt H' g (m + step * n) → H' D = some (.lst ys) → ys.length = n → (∀ y ∈ ys, R y H') → Qd H') :
    ∃ W : Nat → Nat → Hp → Prop, (∃ m, W 0 m (upd H1 D (.lst []))) ∧ ∀ i m H, W i m H →
      ((Itr lo n).stop i H ∧ Qd H) ∨ ((Itr lo n).go i H ∧ ∃ Nx : Hp → Prop, (∀ H', Nx H' → ∃ m', m' < m ∧ W (i + 1) m' H') ∧ ∀ x H', (Itr lo n).yld i H x H' → gName j x (wipe σ vs) H' fun σ2 H2 => wipe σ2 vs = wipe σ vs ∧ tYes σ2 H2 fun b H3 =>
        if b = true then te σ2 H3 fun y H4 => ∃ acc, H4 D = some (.lst acc) ∧ acc.length < sizeLine ∧ Nx (upd H4 D (.lst (acc ++ [y]))) else Nx H3) := by
  have nDg : D ≠ g := hG.ne nD
  refine lc_range (lo := lo) (n := n) (fun i H => ∃ ys : List V, But g H1 H ∧ GenAt H g (m + step * i) ∧ H D = some (.lst ys) ∧ ys.length = i ∧ ∀ y ∈ ys, R y H)
    ⟨[], But.of (same_upd nD), hG.same (same_upd nD), upd_same, rfl, (fun _ h => nomatch h)⟩ ?_ ?_
  · rintro i H hi ⟨ys, b, hg, hD, hl, hR⟩
    refine ⟨hw _, ?_⟩
    unfold tYes
    dsimp only
    rw [if_pos (show true = true from rfl)]
    refine hs i H ys hi b hg hD _ fun y H4 r4 b4 g4 => ?_
    have hD4 := b4 _ _ nDg hD
    refine ⟨ys, hD4, by omega, ys ++ [y], ?_, ?_, upd_same, by rw [List.length_append, hl]; rfl, fun z hz => ?_⟩
    · intro c o nc hc
      rw [upd_ne (ne_of_none hc nD)]
      exact b4 c o nc (b c o nc hc)
    · obtain ⟨x', y', z', e1, e2, e3⟩ := g4
      exact ⟨x', y', z', by rw [upd_ne nDg.symm]; exact e1, e2, e3⟩
    · rcases List.mem_append.mp hz with h | h
      · exact mono z H _ (fun c o nc ng hc => by rw [upd_ne nc]; exact b4 c o ng hc) (hR z h)
      · rw [List.mem_singleton.mp h]
        exact mono y H4 _ (fun c o nc ng hc => by rw [upd_ne nc]; exact hc) r4
  · rintro H ⟨ys, b, hg, hD, hl, hR⟩
    exact hd H ys b hg hD hl hR
/-- samples of a depth in a list -/
def RuleAt2 (g : Addr) (ws : List Int) (p : Addr) (H : Hp) : Prop := H p = some (.lst (ws.map V.int)) ∧ p ≠ g
def SmpAt (g : Addr) (d n : Nat) (p : Addr) (H : Hp) : Prop := ∃ fs : List Int, H p = some (.lst (fs.map V.int)) ∧ fs.length = n ∧ Smp d fs ∧ p ≠ g
theorem SmpAt.but {g p : Addr} {d n : Nat} {H H' : Hp} (h : SmpAt g d n p H) (b : But g H H') : SmpAt g d n p H' := by
  obtain ⟨fs, e, l, k, pg⟩ := h
  exact ⟨fs, b _ _ pg e, l, k, pg⟩
theorem told_1 : alkV (unlL ((2 + 1) * (List.length ([2] : List Int) + List.length ([] : List Int))) (goR (2 ^ (2 - 1)) [2] [1]) (goR (2 ^ (2 - 1)) ([] : List Int) ([] : List Int))) (2 * (List.length ([2] : List Int) + List.length ([] : List Int))) = .int 2 := by decide +kernel
theorem told_2 : headV (unlL (List.length ([1] : List Int) + List.length ([0] : List Int)) (goR (2 ^ (1 - 1)) [1] [-1]) (goR (2 ^ (1 - 1)) [0] [-1])) = .int 1 := by decide +kernel
theorem told_3 : alkV (unlL ((5 + 1) * (List.length ([] : List Int) + List.length ([] : List Int))) (goR (2 ^ (5 - 1)) ([] : List Int) ([] : List Int)) (goR (2 ^ (5 - 1)) ([] : List Int) ([] : List Int))) (5 * (List.length ([] : List Int) + List.length ([] : List Int))) = .int 0 := by decide +kernel
theorem told_4 : headV (unlL (List.length ([1, 1] : List Int) + List.length ([2, 0, -1] : List Int)) (goR (2 ^ (4 - 1)) [1, 1] [0, 1]) (goR (2 ^ (4 - 1)) [2, 0, -1] [0, 1, 2])) = .int 2 := by decide +kernel
theorem told_5 : alkV (unlL ((3 + 1) * (List.length ([4] : List Int) + List.length ([] : List Int))) (goR (2 ^ (3 - 1)) [4] [1]) (goR (2 ^ (3 - 1)) ([] : List Int) ([] : List Int))) (3 * (List.length ([4] : List Int) + List.length ([] : List Int))) = .int 2 := by decide +kernel
local macro_rules | `(tactic| walk_at "go") => `(tactic| repeat (first | (with_reducible first | refine iteT ?_ | refine iteF ?_ | refine iteNtt ?_ | refine iteNff ?_ | refine iteET (by omega) ?_ | refine iteEF (by omega) ?_ | refine iteENT (by omega) ?_ | refine iteENF (by omega) ?_ | refine iteDT (by omega) ?_ | refine iteDF (by omega) ?_ | refine iteNT (by omega) ?_ | refine iteNF (by omega) ?_) | refine ⟨_, rfl, ?_⟩ | refine ⟨_, _, rfl, rfl, ?_⟩ | refine ⟨_, _, rfl, ?_⟩ | refine ⟨rfl, ?_⟩ | refine .inl ⟨_, rfl, ?_⟩ | refine .inr ⟨_, rfl, ?_⟩))
local macro_rules | `(tactic| walk_at "b") => `(tactic| try dsimp (config := { proj := false, iota := false, eta := false, zeta := false }) only)
section
variable {P : Program} {w : World} {K : PySem.W.Frag} {mg : Str → Option Value} {base : Heap} [pf : Sup.PF P fileS]
def sp_law (K : PySem.W.Frag) : Sp := fun vs H Q _ => ∃ (a : Addr) (ns : List Int), vs = [.ref a] ∧ SqL K H a (ns.map V.int) ∧ ns.length ≤ 63 ∧ ∀ H', Q (.bl true) H'
theorem G_law (T : Top K mg) : FnG P w K mg base CX0 10 T.f_law T.fd_law ["_law_script"] (sp_law K) := by
  refine FnG.body T.F_law sc_law (fun vs H Q E h => by obtain ⟨a, ns, rfl, _⟩ := h; rfl) (fun cdv A outer s H vs Q E gd hr h => ?_)
  obtain ⟨a, ns, rfl, hS, hz, q⟩ := h
  refine ⟨_, PSs.nox (pss_cons (ps_for PassesOwn.never rfl (pi_range1 (by rfl) T.n_range (pa_cons pe_int pa_nil)) (pg_name (i := 1) sc_law.nd rfl (by first | exact Or.inl rfl | exact Or.inr rfl))
    (pss_cons (ps_set (i := 3) sc_law.nd rfl (by first | exact Or.inl rfl | exact Or.inr rfl) (pe_call (G_law_generator (P := P) T) (hr.mono (by decide)) (by rfl) T.g_law_generator T.F_law_generator.kp T.b_law_generator .nil pass0 (pa_cons (pv 0) (pa_cons (pv 1) pa_nil))))
  (pss_cons (ps_asg (pe_tup (pa_cons (pe_op op_add pe_int (pe_call (G_law_random (P := P) T) (hr.mono (by decide)) (by rfl) T.g_law_random T.F_law_random.kp T.b_law_random .nil pass0 (pa_cons (pv 3) (pa_cons pe_int pa_nil)))) (pa_cons (pe_call (G_law_small (P := P) T) (hr.mono (by decide)) (by rfl) T.g_law_small T.F_law_small.kp T.b_law_small .nil pass0 (pa_cons (pv 3) (pa_cons (pe_call (G_law_random (P := P) T) (hr.mono (by decide)) (by rfl) T.g_law_random T.F_law_random.kp T.b_law_random .nil pass0 (pa_cons (pv 3) (pa_cons pe_int pa_nil))) pa_nil))) pa_nil))) (k_pgT K rfl (by rfl) (pgs_cons (pg_name (i := 8) sc_law.nd rfl (by first | exact Or.inl rfl | exact Or.inr rfl)) (pgs_cons (pg_name (i := 9) sc_law.nd rfl (by first | exact Or.inl rfl | exact Or.inr rfl)) pgs_nil))))
  (pss_cons (ps_par (by rfl) sc_law.nd (i := 10) (j := 11) rfl rfl (by decide) rfl rfl (pa_cons (pe_call (G_law_row (P := P) T) (hr.mono (by decide)) (by rfl) T.g_law_row T.F_law_row.kp T.b_law_row .nil pass0 (pa_cons (pv 3) (pa_cons (pv 8) (pa_cons (pe_callB (k_len K rfl) (by rfl) T.n_len (by decide +kernel) (pa_cons (pv 9) pa_nil)) pa_nil)))) (pa_cons (pe_call (G_law_small (P := P) T) (hr.mono (by decide)) (by rfl) T.g_law_small T.F_law_small.kp T.b_law_small .nil pass0 (pa_cons (pv 3) (pa_cons (pe_call (G_law_random (P := P) T) (hr.mono (by decide)) (by rfl) T.g_law_random T.F_law_random.kp T.b_law_random .nil pass0 (pa_cons (pv 3) (pa_cons pe_int pa_nil))) pa_nil))) pa_nil)) (by rfl))
  (pss_cons (ps_set (i := 4) sc_law.nd rfl (by first | exact Or.inl rfl | exact Or.inr rfl) (pe_call (G_law_product (P := P) T) (hr.mono (by decide)) (by rfl) T.g_law_product T.F_law_product.kp T.b_law_product .nil pass0 (pa_cons (pv 9) (pa_cons (pv 11) pa_nil))))
  (pss_cons (ps_set (i := 5) sc_law.nd rfl (by first | exact Or.inl rfl | exact Or.inr rfl) (pe_call (G_law_gone (P := P) T) (hr.mono (by decide)) (by rfl) T.g_law_gone T.F_law_gone.kp T.b_law_gone .nil pass0 (pa_cons (pv 8) (pa_cons (pv 9) (pa_cons (pv 10) (pa_cons (pe_callB (k_len K rfl) (by rfl) T.n_len (by decide +kernel) (pa_cons (pv 4) pa_nil)) pa_nil))))))
  (pss_cons (ps_if (pt_cmpR op_notN (pe_call (G_first_parted (P := P) T) (hr.mono (by decide)) (by rfl) T.g_first_parted T.F_first_parted.kp T.b_first_parted .nil passL (pa_cons (pv 8) (pa_cons (pv 9) (pa_cons (pv 10) (pa_cons (pv 4) (pa_cons (pv 5) pa_nil)))))) pe_non (nomark _))
    (pss_one (ps_ret pe_bl))
    pss_nil)
  (pss_cons (ps_if (pt_not (pt_val (pe_call (G_law_pair_good (P := P) T) (hr.mono (by decide)) (by rfl) T.g_law_pair_good T.F_law_pair_good.kp T.b_law_pair_good .nil pass0 (pa_cons (pv 3) (pa_cons (pv 8) (pa_cons (pv 9) (pa_cons (pv 10) (pa_cons (pv 4) (pa_cons (pv 5) pa_nil)))))))))
    (pss_one (ps_ret pe_bl))
    pss_nil)
  (pss_cons (ps_if (pt_cmpR (k_neD K rfl hr.units) (pv 4) (pe_lst pa_nil) (nomark _))
    (pss_one (ps_asg (pe_ix (k_ixL K rfl) (pe_call (G_law_row (P := P) T) (hr.mono (by decide)) (by rfl) T.g_law_row T.F_law_row.kp T.b_law_row .nil pass0 (pa_cons (pv 3) (pa_cons (pv 8) (pa_cons pe_int pa_nil)))) pe_int (fun _ _ => rfl)) (pg_sub (pv 5) (pe_call (G_law_random (P := P) T) (hr.mono (by decide)) (by rfl) T.g_law_random T.F_law_random.kp T.b_law_random .nil pass0 (pa_cons (pv 3) (pa_cons (pe_callB (k_len K rfl) (by rfl) T.n_len (by decide +kernel) (pa_cons (pv 4) pa_nil)) pa_nil))) set_list)))
    pss_nil)
  (pss_cons (ps_if (pt_not (pt_val (pe_call (G_law_pair_good (P := P) T) (hr.mono (by decide)) (by rfl) T.g_law_pair_good T.F_law_pair_good.kp T.b_law_pair_good .nil pass0 (pa_cons (pv 3) (pa_cons (pv 8) (pa_cons (pv 9) (pa_cons (pv 10) (pa_cons (pv 4) (pa_cons (pv 5) pa_nil)))))))))
    (pss_one (ps_ret pe_bl))
    pss_nil)
  (pss_cons (ps_setLc (i := 6) (own := [("_law_turn", 13)]) (g := gName 13) (tt := tYes) (by rfl) sc_law.nd rfl rfl (sw_true rfl rfl rfl (by decide +kernel)) (pi_range1 (by rfl) T.n_range (pa_cons pe_int pa_nil)) (blkOk_by (own := [("_law_turn", 13)]) (N := N_law) (sc := defScope s_law) (by decide +kernel)) (fun _ _ _ _ _ => (pg_name (i := 13) sc_law.nd rfl (by first | exact Or.inl rfl | exact Or.inr rfl))) (fun _ _ _ _ _ => pts_nil) (fun _ _ _ _ _ => (pe_lc (own := [("_law_weight", 14)]) (g := gName 14) (tt := tYes) (by rfl) sc_law.nd (k_piL K rfl (pe_call (G_law_small (P := P) T) (hr.mono (by decide)) (by rfl) T.g_law_small T.F_law_small.kp T.b_law_small .nil pass0 (pa_cons (pv 3) (pa_cons (pe_call (G_law_random (P := P) T) (hr.mono (by decide)) (by rfl) T.g_law_random T.F_law_random.kp T.b_law_random .nil pass0 (pa_cons (pv 3) (pa_cons pe_int pa_nil))) pa_nil)))) (blkOk_by (own := [("_law_weight", 14)]) (N := N_law) (by kernel_rfl)) (fun _ _ _ _ _ => (pg_name (i := 14) sc_law.nd rfl (by first | exact Or.inl rfl | exact Or.inr rfl))) (fun _ _ _ _ _ => pts_nil) (fun _ _ _ _ _ => (pe_op op_mul pe_int (pv 14))))))
  (pss_one (ps_for PassesOwn.never rfl (k_piL K rfl (pe_lst (pa_cons (pv 6) (pa_cons (pe_lst (pa_cons (pv 9) (pa_cons (pe_ix (k_ixL K rfl) (pv 6) pe_int (fun _ _ => rfl)) pa_nil))) (pa_cons (pe_lst (pa_cons (pe_call (G_law_small (P := P) T) (hr.mono (by decide)) (by rfl) T.g_law_small T.F_law_small.kp T.b_law_small .nil pass0 (pa_cons (pv 3) (pa_cons pe_int pa_nil))) (pa_cons (pe_call (G_law_small (P := P) T) (hr.mono (by decide)) (by rfl) T.g_law_small T.F_law_small.kp T.b_law_small .nil pass0 (pa_cons (pv 3) (pa_cons pe_int pa_nil))) pa_nil))) (pa_cons (pe_lst (pa_cons (pe_lst pa_nil) (pa_cons (pe_ix (k_ixL K rfl) (pv 6) pe_int (fun _ _ => rfl)) pa_nil))) pa_nil)))))) (pg_name (i := 7) sc_law.nd rfl (by first | exact Or.inl rfl | exact Or.inr rfl))
    (pss_cons (ps_setLc (i := 12) (own := [("_law_rule", 15)]) (g := gName 15) (tt := tYes) (by rfl) sc_law.nd rfl rfl (sw_true rfl rfl rfl (by decide +kernel)) (k_piL K rfl (pv 7)) (blkOk_by (own := [("_law_rule", 15)]) (N := N_law) (sc := defScope s_law) (by decide +kernel)) (fun _ _ _ _ _ => (pg_name (i := 15) sc_law.nd rfl (by first | exact Or.inl rfl | exact Or.inr rfl))) (fun _ _ _ _ _ => pts_nil) (fun _ _ _ _ _ => (pe_call (G_law_row (P := P) T) (hr.mono (by decide)) (by rfl) T.g_law_row T.F_law_row.kp T.b_law_row .nil pass0 (pa_cons (pv 3) (pa_cons (pv 8) (pa_cons (pe_callB (k_len K rfl) (by rfl) T.n_len (by decide +kernel) (pa_cons (pv 15) pa_nil)) pa_nil))))))
  (pss_one (ps_if (pt_not (pt_val (pe_call (G_law_pair_good (P := P) T) (hr.mono (by decide)) (by rfl) T.g_law_pair_good T.F_law_pair_good.kp T.b_law_pair_good .nil pass0 (pa_cons (pv 3) (pa_cons (pv 8) (pa_cons (pe_ix (k_ixL K rfl) (pv 7) pe_int (fun _ _ => rfl)) (pa_cons (pe_ix (k_ixL K rfl) (pv 12) pe_int (fun _ _ => rfl)) (pa_cons (pe_ix (k_ixL K rfl) (pv 7) pe_int (fun _ _ => rfl)) (pa_cons (pe_ix (k_ixL K rfl) (pv 12) pe_int (fun _ _ => rfl)) pa_nil)))))))))
    (pss_one (ps_ret pe_bl))
    pss_nil))))))))))))))))
  (pss_cons (ps_set (i := 2) sc_law.nd rfl (by first | exact Or.inl rfl | exact Or.inr rfl) (pe_lst (pa_cons (pe_call (G_alike_from (P := P) T) (hr.mono (by decide)) (by rfl) T.g_alike_from T.F_alike_from.kp T.b_alike_from .nil passL (pa_cons pe_int (pa_cons (pe_lst (pa_cons pe_int pa_nil)) (pa_cons (pe_lst (pa_cons pe_int pa_nil)) (pa_cons (pe_lst pa_nil) (pa_cons (pe_lst pa_nil) pa_nil)))))) (pa_cons (pe_call (G_first_parted (P := P) T) (hr.mono (by decide)) (by rfl) T.g_first_parted T.F_first_parted.kp T.b_first_parted .nil passL (pa_cons pe_int (pa_cons (pe_lst (pa_cons pe_int pa_nil)) (pa_cons (pe_lst (pa_cons (pe_un un_neg pe_int) pa_nil)) (pa_cons (pe_lst (pa_cons pe_int pa_nil)) (pa_cons (pe_lst (pa_cons (pe_un un_neg pe_int) pa_nil)) pa_nil)))))) (pa_cons (pe_call (G_alike_from (P := P) T) (hr.mono (by decide)) (by rfl) T.g_alike_from T.F_alike_from.kp T.b_alike_from .nil passL (pa_cons pe_int (pa_cons (pe_lst pa_nil) (pa_cons (pe_lst pa_nil) (pa_cons (pe_lst pa_nil) (pa_cons (pe_lst pa_nil) pa_nil)))))) pa_nil)))))
  (pss_cons (ps_expr (pe_bm PySem.F.plainAttrs_list PySem.F.slot_list_append PySem.F.type_list_append mt_append (pv 2) (pa_cons (pe_callKO (G_first_parted (P := P) T) (hr.mono (by decide)) (by rfl) T.g_first_parted T.F_first_parted.kp (FunD.kbindsN T.F_first_parted ["seconds", "other", "firsts", "one", "depth"] List.reverse Vals_rev (fun _ _ _ _ _ _ ws hl => match ws, hl with | [_, _, _, _, _], _ => rfl)) passL (pk_cons (pe_lst (pa_cons pe_int (pa_cons pe_int (pa_cons pe_int pa_nil)))) (pk_cons (pe_lst (pa_cons pe_int (pa_cons pe_int (pa_cons (pe_un un_neg pe_int) pa_nil)))) (pk_cons (pe_lst (pa_cons pe_int (pa_cons pe_int pa_nil))) (pk_cons (pe_lst (pa_cons pe_int (pa_cons pe_int pa_nil))) (pk_cons pe_int pk_nil)))))) pa_nil)))
  (pss_cons (ps_expr (pe_bm PySem.F.plainAttrs_list PySem.F.slot_list_append PySem.F.type_list_append mt_append (pv 2) (pa_cons (pe_callKO (G_alike_from (P := P) T) (hr.mono (by decide)) (by rfl) T.g_alike_from T.F_alike_from.kp (FunD.kbindsN T.F_alike_from ["seconds", "other", "firsts", "one", "depth"] List.reverse Vals_rev (fun _ _ _ _ _ _ ws hl => match ws, hl with | [_, _, _, _, _], _ => rfl)) passL (pk_cons (pe_lst pa_nil) (pk_cons (pe_lst pa_nil) (pk_cons (pe_lst (pa_cons pe_int pa_nil)) (pk_cons (pe_lst (pa_cons pe_int pa_nil)) (pk_cons pe_int pk_nil)))))) pa_nil)))
  (pss_one (ps_ret (pe_and (pe_cmpR (k_eqD K rfl hr.units) (pv 2) (pe_lst (pa_cons pe_int (pa_cons pe_int (pa_cons pe_int (pa_cons pe_int (pa_cons pe_int pa_nil)))))) (nomark _)) (pe_one (pe_callG0 (G_law_refused (P := P) T) gd (hr.mono (by decide)) (by rfl) T.g_law_refused T.F_law_refused.kp T.b_law_refused .nil pass0))))))))), ?_⟩
  refine ⟨_, rfl, by decide, by decide, ?_⟩
  refine for_range (lo := 0) (n := Int.toNat 2) (fun i σ HA => ∃ v1 v3 v4 v5 v6 v7 v8 v9 v10 v11 v12 : Option V, σ = [some (.ref a), v1, none, v3, v4, v5, v6, v7, v8, v9, v10, v11, v12, none, none, none] ∧ Same H HA) ⟨none, none, none, none, none, none, none, none, none, none, none, rfl, Same.refl _⟩ ?_ ?_
  · rintro i σ HA hi ⟨v1, v3, v4, v5, v6, v7, v8, v9, v10, v11, v12, rfl, sA⟩
    have hi2 : i < 2 := hi
    rw [Int.zero_add]
    refine ⟨_, rfl, _, rfl, a, ns, i, rfl, sA.seq hS, fun H1 g s1 ng gG => ?_⟩
    have g1 : GenAt H1 g 1000 := gG.mono (by omega)
    refine ⟨_, rfl, g, _, _, rfl, g1, by decide, by decide, by decide +kernel, fun x1 H2 x10 x11 g2 b2 => ?_⟩
    obtain ⟨d, hd, d1, d2⟩ : ∃ d : Nat, 1 + x1 = (d : Int) ∧ 1 ≤ d ∧ d ≤ 12 := ⟨(1 + x1).toNat, by omega, by omega, by omega⟩
    refine ⟨_, _, rfl, rfl, ?_⟩
    dsimp only
    rw [hd]
    refine ⟨_, rfl, _, rfl, g, _, _, rfl, g2, by decide, by decide, by decide +kernel, fun x2 H3 x20 x21 g3 b3 => ?_⟩
    obtain ⟨m, rfl⟩ : ∃ m : Nat, x2 = (m : Int) := ⟨x2.toNat, by omega⟩
    refine ⟨g, _, m, rfl, g3, by decide, by omega, fun H4 wa ws b4 nw wg g4 hw lw bw => ?_⟩
    refine ⟨(by show 2 ≤ sizeLine; decide), fun tp ntp => ⟨tp, _, rfl, .inl (.inl upd_same), rfl, _, _, rfl, _, _, rfl, rfl, ?_⟩⟩
    obtain ⟨H5, e5, s5, _⟩ := fresh (.tup [V.int (d : Int), V.ref wa]) ntp
    rw [e5]
    have g5 := g4.same s5
    have hw5 := s5 _ _ hw
    refine ⟨_, rfl, _, rfl, _, rfl, wa, _, rfl, .inl (.inl (.inl hw5)), g, _, d, _, rfl, g5, by decide, d1, by omega, by rw [List.length_map]; omega, fun H6 fa fs b6 nf fg g6 hf lf sf => ?_⟩
    rw [List.length_map] at lf
    refine ⟨_, rfl, _, rfl, g, _, _, rfl, g6, by decide, by decide, by decide +kernel, fun x3 H7 x30 x31 g7 b7 => ?_⟩
    obtain ⟨m2, rfl⟩ : ∃ m : Nat, x3 = (m : Int) := ⟨x3.toNat, by omega⟩
    refine ⟨g, _, m2, rfl, g7, by decide, by omega, fun H8 ua us b8 nu ug g8 hu lu bu => ?_⟩
    refine ⟨_, _, rfl, ?_⟩
    have hw8 := b8 _ _ wg (b7 _ _ wg (b6 _ _ wg hw5))
    have hf8 := b8 _ _ fg (b7 _ _ fg hf)
    refine ⟨_, rfl, _, rfl, wa, ua, ws, us, rfl, hw8, hu, by omega, by omega, bw, bu, fun H9 oa s9 no ho => ?_⟩
    have gw : GoodR ws := goodS (by omega) (by decide) bw
    have lo : (prodL (asP ws) (asP us)).length = ws.length + us.length := by rw [prodL_len, asP_len, asP_len]; omega
    have go : GoodR (prodL (asP ws) (asP us)) := goodS (by omega) (by decide) (prodL_small (asP_small (by decide) bw) (asP_small (by decide) bu) (by rw [asP_len]; omega))
    have og : oa ≠ g := g8.ne no
    have hw9 := s9 _ _ hw8
    have hf9 := s9 _ _ hf8
    have g9 := g8.same s9
    have hh := half_pos d
    have hfol : Fol (2 * 2 ^ (d - 1)) (prodL (asP ws) (asP us)) (goR (2 ^ (d - 1)) ws fs) := fol_asP.mpr (fol_prod (goR_fol hh lf))
    refine ⟨_, rfl, _, rfl, _, rfl, _, rfl, oa, _, rfl, .inl (.inl (.inl ho)), wa, fa, d, ws, fs, _, rfl, hw9, hf9, gw, lf, d1, by omega, by rw [List.length_map]; omega, by rw [List.length_map]; omega, fun H10 sa s10 ns' hs => ?_⟩
    rw [List.length_map] at hs
    have sg : sa ≠ g := g9.ne ns'
    have ho10 := s10 _ _ ho
    have hw10 := s10 _ _ hw9
    have hf10 := s10 _ _ hf9
    have g10 := g9.same s10
    rw [rowZ_ints] at hs
    generalize prodL (asP ws) (asP us) = os at *
    have hR := goR_range hh sf (ws := ws)
    generalize ess : (List.range os.length).map (goR (2 ^ (d - 1)) ws fs) = ss at *
    have ls : ss.length = os.length := by rw [← ess, List.length_map, List.length_range]
    have hss : Smp d ss := fun x hx => by
      rw [← ess] at hx
      obtain ⟨k, _, rfl⟩ := List.mem_map.mp hx
      exact hR _
    have same : ∀ k, goR (2 ^ (d - 1)) os ss k = goR (2 ^ (d - 1)) ws fs k := goR_of hh ls hfol hR fun k hk => by rw [← ess, row_getD hk]
    refine ⟨_, rfl, _, rfl, _, rfl, _, rfl, _, rfl, _, _, _, _, _, rfl, .inl ⟨d, rfl, d1, by omega, .inl ⟨wa, ws, rfl, hw10, gw, .inl ⟨fa, fs, rfl, hf10, sf, lf, .inl ⟨oa, os, rfl, ho10, go, .inl ⟨sa, ss, rfl, hs, hss, ls, fun H11 s11 => ?_⟩⟩⟩⟩⟩⟩
    rw [show goR (2 ^ (d - 1)) os ss = goR (2 ^ (d - 1)) ws fs from funext same, unlL_cut (c := 0) (Nat.zero_le _) fun _ _ _ => rfl]
    refine ⟨rfl, _, rfl, iteNF rfl ?_⟩
    have g11 := g10.same s11
    have hw11 := s11 _ _ hw10
    have hf11 := s11 _ _ hf10
    have ho11 := s11 _ _ ho10
    have hs11 := s11 _ _ hs
    refine ⟨_, rfl, _, rfl, _, rfl, _, rfl, _, rfl, _, rfl, g, wa, fa, oa, sa, _, d, ws, fs, os, ss, rfl, g11, by decide, hw11, hf11, ho11, hs11, wg, fg, og, sg, gw, go, sf, hss, lf, ls, d1, by omega, fun H12 b12 g12 => ?_⟩
    refine ⟨_, rfl, iteF ?_⟩
    have ho12 := b12 _ _ og ho11
    have hs12 := b12 _ _ sg hs11
    refine ⟨_, rfl, Nat.zero_le _, fun em nem => ?_⟩
    obtain ⟨H13, e13, s13, hem⟩ := fresh (.lst ([] : List V)) nem
    rw [e13]
    have ho13 := s13 _ _ ho12
    have hs13 := s13 _ _ hs12
    have g13 := g12.same s13
    refine neD_lst (ms := []) (.inl (.inl ho13)) (.inl (.inl hem)) ⟨_, rfl, ?_⟩
    have b113 : But g H1 H13 := ((((((((b2.trans b3).trans b4).same s5).trans b6).trans b7).trans b8).same (s9.trans (s10.trans s11))).trans b12).same s13
    have nsa : H1 sa = none := (((((((b2.trans b3).trans b4).same s5).trans b6).trans b7).trans b8).same s9).free sg ns'
    refine joinS (fun σ H' => σ = [some (.ref a), some (.int (i : Nat)), none, some (.ref g), some (.ref oa), some (.ref sa), v6, v7, some (.int (d : Nat)), some (.ref wa), some (.ref fa), some (.ref ua), v12, none, none, none] ∧ But g H1 H' ∧ GenAt H' g 20000 ∧ H' oa = some (.lst (os.map V.int)) ∧ H' wa = some (.lst (ws.map V.int)) ∧ H' fa = some (.lst (fs.map V.int)) ∧ SmpAt g d os.length sa H') (fun σ H' hp => ?_) (fun e k => ?_) (fun _ => ⟨rfl, b113, g13.mono (by omega), ho13, s13 _ _ (b12 _ _ wg hw11), s13 _ _ (b12 _ _ fg hf11), ss, hs13, ls, hss, sg⟩)
    rotate_left
    · have hne : os ≠ [] := fun z => by rw [z] at e; exact absurd e (by decide)
      have hl0 : 0 < os.length := List.length_pos_iff.mpr hne
      have hol := go.1
      refine ⟨_, rfl, _, rfl, g, _, d, 1, rfl, g13, by decide, d1, by omega, by decide, fun H14 p ys b14 np pg g14 hp lp sp => ?_⟩
      obtain ⟨y0, rfl⟩ : ∃ y0, ys = [y0] := List.length_eq_one_iff.mp lp
      refine ⟨p, _, _, _, rfl, rfl, .inl (.inl hp), atI_nat (j := 0) rfl, ?_⟩
      refine ⟨_, rfl, _, rfl, _, rfl, oa, _, rfl, .inl (.inl (.inl (b14 _ _ og ho13))), g, _, _, rfl, g14, by decide, by rw [List.length_map]; omega, small_2900 (by rw [List.length_map]; omega), fun x H15 x0 x1 g15 b15 => ?_⟩
      obtain ⟨j, rfl⟩ : ∃ j : Nat, x = (j : Int) := ⟨x.toNat, by omega⟩
      rw [List.length_map] at x1
      have b1315 := b14.trans b15
      have hs15 := b1315 _ _ sg hs13
      have osa : oa ≠ sa := ne_of_none ho ns'
      have wsa : wa ≠ sa := ne_of_none hw9 ns'
      have fsa : fa ≠ sa := ne_of_none hf9 ns'
      refine ⟨sa, _, _, j, rfl, rfl, hs15, ?_, k _ _ ⟨rfl, ?_, ?_, ?_, ?_, ?_, ?_⟩⟩
      · unfold ixN
        rw [if_pos (by omega), if_pos (by rw [List.length_map]; omega)]
        rfl
      · intro c o nc hc
        rw [upd_ne (ne_of_none hc nsa)]
        exact b1315 _ _ nc (b113 _ _ nc hc)
      · obtain ⟨x', y', z', e1, e2, e3⟩ := g15
        exact ⟨x', y', z', by rw [upd_ne sg.symm]; exact e1, e2, by omega⟩
      · rw [upd_ne osa]; exact b1315 _ _ og ho13
      · rw [upd_ne wsa]; exact b1315 _ _ wg (s13 _ _ (b12 _ _ wg hw11))
      · rw [upd_ne fsa]; exact b1315 _ _ fg (s13 _ _ (b12 _ _ fg hf11))
      · refine ⟨ss.set j y0, by rw [upd_same, List.map_set], by rw [List.length_set, ls], fun x hx => ?_, sg⟩
        rcases List.mem_or_eq_of_mem_set hx with h | rfl
        · exact hss x h
        · exact sp _ (List.mem_singleton.mpr rfl)
    obtain ⟨rfl, b14, g14, ho14, hw14, hf14, ss2, hs14, ls2, hss2, _⟩ := hp
    generalize H' = H14 at *
    refine ⟨_, rfl, _, rfl, _, rfl, _, rfl, _, rfl, _, rfl, g, wa, fa, oa, sa, _, d, ws, fs, os, ss2, rfl, g14, by decide, hw14, hf14, ho14, hs14, wg, fg, og, sg, gw, go, sf, hss2, lf, ls2, d1, by omega, fun H15 b15 g15 => ?_⟩
    refine ⟨_, rfl, iteF ?_⟩
    have b115 := b14.trans b15
    have hw15 := b15 _ _ wg hw14
    refine ⟨_, rfl, by decide, by decide, fun D nD => ?_⟩
    refine lc_drawW (lo := 0) (n := Int.toNat 2) g _ 2000 (fun y H => ∃ (e : Addr) (ys : List Int), y = .ref e ∧ e ≠ D ∧ e ≠ g ∧ H e = some (.lst (ys.map V.int)) ∧ GoodR ys) nD g15 (small4 (by decide)) ?_ (fun x => rfl) ?_ ?_
    · rintro y X X' k ⟨e, ys, rfl, eD, eg, he, hl⟩
      exact ⟨e, ys, rfl, eD, eg, k _ _ eD eg he, hl⟩
    · intro t H' zs ht b' g' hD' Qt qt
      refine ⟨_, rfl, _, rfl, g, _, _, rfl, g', by omega, by decide, by decide +kernel, fun x4 X1 x40 x41 gx1 bx1 => ?_⟩
      obtain ⟨m4, rfl⟩ : ∃ m : Nat, x4 = (m : Int) := ⟨x4.toNat, by omega⟩
      refine ⟨g, _, m4, rfl, gx1, by omega, by omega, fun X2 p ys bx2 np pg gx2 hp lp bp => ?_⟩
      refine ⟨p, rfl, ⟨_, .inl (.inl hp)⟩, fun D2 nD2 => ?_⟩
      refine lc_mapL (K := K) (xs := ys.map V.int) (ys.map fun x => V.int (2 * x)) nD2 (.inl (.inl hp)) (by rw [List.length_map, List.length_map]) (by rw [List.length_map]; exact small4 (by omega)) (fun x => rfl) ?_ ?_
      · intro j x y X3 hx hy s Qt' qt'
        obtain ⟨n', hn', rfl⟩ := int_at hx
        rw [List.getElem?_map, hn'] at hy
        cases hy
        exact ⟨_, rfl, _, _, rfl, rfl, .inl ⟨by decide, by decide⟩, qt' _ (Same.refl _)⟩
      · intro X3 sx3 hD2
        refine qt _ _ ⟨D2, ys.map fun x => 2 * x, rfl, ?_, gx2.ne nD2, by rw [List.map_map]; exact hD2, goodS (c := 6) (by rw [List.length_map]; omega) (by decide) fun z hz => ?_⟩ ((bx1.trans bx2).same sx3) ((gx2.same sx3).mono (by omega))
        · exact (ne_of_none (bx2 _ _ (g15.ne nD) (bx1 _ _ (g15.ne nD) hD')) nD2).symm
        · obtain ⟨y, hy, rfl⟩ := List.mem_map.mp hz
          have := bp y hy
          omega
    · intro H16 ys b16 g16 hD hyl hR
      have b116 := b115.trans b16
      obtain ⟨e0, e1, rfl⟩ : ∃ e0 e1, ys = [e0, e1] := two_of hyl
      obtain ⟨p0, r0, rfl, _, p0g, hp0, gr0⟩ := hR e0 (by simp)
      obtain ⟨p1, r1, rfl, _, p1g, hp1, gr1⟩ := hR e1 (by simp)
      have Dg : D ≠ g := g15.ne nD
      have hw16 := b16 _ _ wg hw15
      refine ⟨_, rfl, _, rfl, _, rfl, D, _, _, _, rfl, rfl, .inl (.inl hD), atI_nat (j := 0) rfl, (by show 2 ≤ sizeLine; decide), fun q1 nq1 => ?_⟩
      obtain ⟨H17, e17, s17, hq1⟩ := fresh (.lst [V.ref wa, V.ref p0]) nq1
      rw [e17]
      have g17 := g16.same s17
      refine ⟨_, rfl, g, _, 2, rfl, g17, by decide, by decide, fun H18 c1 k1 b18 nc1 c1g g18 hc1 lc1 bc1 => ?_⟩
      refine ⟨_, rfl, g, _, 3, rfl, g18, by decide, by decide, fun H19 c2 k2 b19 nc2 c2g g19 hc2 lc2 bc2 => ?_⟩
      refine ⟨(by show 2 ≤ sizeLine; decide), fun q2 nq2 => ?_⟩
      obtain ⟨H20, e20, s20, hq2⟩ := fresh (.lst [V.ref c1, V.ref c2]) nq2
      rw [e20]
      refine ⟨Nat.zero_le _, fun em2 nem2 => ?_⟩
      obtain ⟨H21, e21, s21, hem2⟩ := fresh (.lst ([] : List V)) nem2
      rw [e21]
      have b1921 : But g H19 H21 := (But.of s20).same s21
      have b1721 := (b18.trans b19).trans b1921
      have hD21 := b1721 _ _ Dg (s17 _ _ hD)
      refine ⟨_, rfl, D, _, _, _, rfl, rfl, .inl (.inl hD21), atI_nat (j := 1) rfl, (by show 2 ≤ sizeLine; decide), fun q3 nq3 => ?_⟩
      obtain ⟨H22, e22, s22, hq3⟩ := fresh (.lst [V.ref em2, V.ref p1]) nq3
      rw [e22]
      refine ⟨(by show 4 ≤ sizeLine; decide), fun rl nrl => ?_⟩
      obtain ⟨H23, e23, s23, hrl⟩ := fresh (.lst [V.ref D, V.ref q1, V.ref q2, V.ref q3]) nrl
      rw [e23]
      have g21 := (g19.same s20).same s21
      have g23 := (g21.same s22).same s23
      have b1623 : But g H16 H23 := ((But.of s17).trans b1721).same (s22.trans s23)
      have b1723 : But g H17 H23 := b1721.same (s22.trans s23)
      have b1823 : But g H18 H23 := (b19.trans b1921).same (s22.trans s23)
      have b1923 : But g H19 H23 := b1921.same (s22.trans s23)
      have s2023 := s21.trans (s22.trans s23)
      have q1g : q1 ≠ g := g16.ne nq1
      have q2g : q2 ≠ g := g19.ne nq2
      have q3g : q3 ≠ g := g21.ne nq3
      have em2g : em2 ≠ g := (g19.same s20).ne nem2
      have rlg : rl ≠ g := (g21.same s22).ne nrl
      have prs : ∀ x ∈ [V.ref D, V.ref q1, V.ref q2, V.ref q3], Pr g x H23 := by
        intro x hx
        simp only [List.mem_cons, List.not_mem_nil, or_false] at hx
        rcases hx with rfl | rfl | rfl | rfl
        · exact ⟨D, p0, p1, r0, r1, rfl, b1623 _ _ Dg hD, b1623 _ _ p0g hp0, b1623 _ _ p1g hp1, gr0, gr1, Dg, p0g, p1g⟩
        · exact ⟨q1, wa, p0, ws, r0, rfl, b1723 _ _ q1g hq1, b1623 _ _ wg hw16, b1623 _ _ p0g hp0, gw, gr0, q1g, wg, p0g⟩
        · exact ⟨q2, c1, c2, k1, k2, rfl, s2023 _ _ hq2, b1823 _ _ c1g hc1, b1923 _ _ c2g hc2, goodS (by omega) (by decide) bc1, goodS (by omega) (by decide) bc2, q2g, c1g, c2g⟩
        · exact ⟨q3, em2, p1, [], r1, rfl, s23 _ _ hq3, s23 _ _ (s22 _ _ hem2), b1623 _ _ p1g hp1, ⟨by decide, by decide⟩, gr1, q3g, em2g, p1g⟩
      refine ⟨rl, rfl, ⟨_, .inl (.inl hrl)⟩, for_list (K := K) (a := rl) (fun j σ HB => ∃ v7 v12 : Option V, σ = [some (.ref a), some (.int (i : Nat)), none, some (.ref g), some (.ref oa), some (.ref sa), some (.ref D), v7, some (.int (d : Nat)), some (.ref wa), some (.ref fa), some (.ref ua), v12, none, none, none] ∧ But g H23 HB ∧ GenAt HB g (30000 + 5000 * j)) ⟨v7, v12, rfl, But.refl, g23.mono (by decide)⟩ (fun j σ HB _ ⟨_, _, _, b, _⟩ => .inl (.inl (b _ _ rlg hrl))) ?_ ?_⟩
      · rintro j x σ HB hx ⟨v7, v12, rfl, bB, gB⟩
        have hj4 : j < 4 := (List.getElem?_eq_some_iff.mp hx).1
        obtain ⟨r, u, v, ks, ls', rfl, hr, hu, hv, gk, gl, rg, ug', vg⟩ := (prs x (List.mem_of_getElem? hx)).but bB
        refine ⟨_, rfl, r, rfl, ⟨_, .inl (.inl hr)⟩, fun D3 nD3 => ?_⟩
        refine lc_drawLW (K := K) (xs := [V.ref u, V.ref v]) g _ 1000 (fun t y H => ∃ (e : Addr) (ys : List Int), y = .ref e ∧ e ≠ D3 ∧ e ≠ g ∧ H e = some (.lst (ys.map V.int)) ∧ Smp d ys ∧ ys.length = ([ks.length, ls'.length] : List Nat).getD t 0) nD3 gB hr rg (small4 (by show 2 ≤ 100000; decide)) ?_ (fun x => rfl) ?_ ?_
        · rintro t y X X' k ⟨e, ys, rfl, eD, eg, he, hl⟩
          exact ⟨e, ys, rfl, eD, eg, k _ _ eD eg he, hl⟩
        · intro t x X1 zs hx bx gx hD3 Qt qt
          obtain ⟨y, ms, rfl, hy, yg, hml, hm8⟩ : ∃ (y : Addr) (ms : List Int), x = .ref y ∧ X1 y = some (.lst (ms.map V.int)) ∧ y ≠ g ∧ ms.length = ([ks.length, ls'.length] : List Nat).getD t 0 ∧ ms.length ≤ 8 := by
            rcases t with _ | _ | t
            · cases hx; exact ⟨u, ks, rfl, bx _ _ ug' hu, ug', rfl, gk.1⟩
            · cases hx; exact ⟨v, ls', rfl, bx _ _ vg hv, vg, rfl, gl.1⟩
            · cases hx
          have ht2 : t < 2 := (List.getElem?_eq_some_iff.mp hx).1
          refine ⟨_, rfl, _, rfl, _, rfl, y, _, rfl, .inl (.inl (.inl hy)), g, _, d, _, rfl, gx, by omega, d1, by omega, by rw [List.length_map]; omega, fun X2 p ys bx2 np pg gx2 hp lp sp => ?_⟩
          rw [List.length_map] at lp
          exact qt _ _ ⟨p, ys, rfl, (ne_of_none hD3 np).symm, pg, hp, sp, by omega⟩ bx2 (gx2.mono (by omega))
        · intro H24 ys b24 g24 hD3 hyl hR
          have g24 : GenAt H24 g (30000 + 5000 * j + 1000 * 2) := g24
          obtain ⟨e0, e1, rfl⟩ : ∃ e0 e1, ys = [e0, e1] := two_of hyl
          obtain ⟨z0, y0, rfl, _, z0g, hz0, sz0, lz0⟩ := hR 0 e0 rfl
          obtain ⟨z1, y1, rfl, _, z1g, hz1, sz1, lz1⟩ := hR 1 e1 rfl
          have hr24 := b24 _ _ rg hr
          refine ⟨_, rfl, _, rfl, _, rfl, r, _, _, _, rfl, rfl, .inl (.inl hr24), atI_nat (j := 0) rfl, _, rfl, D3, _, _, _, rfl, rfl, .inl (.inl hD3), atI_nat (j := 0) rfl, _, rfl, r, _, _, _, rfl, rfl, .inl (.inl hr24), atI_nat (j := 1) rfl, _, rfl, D3, _, _, _, rfl, rfl, .inl (.inl hD3), atI_nat (j := 1) rfl, ?_⟩
          refine ⟨g, u, z0, v, z1, _, d, ks, y0, ls', y1, rfl, g24, by omega, b24 _ _ ug' hu, hz0, b24 _ _ vg hv, hz1, ug', z0g, vg, z1g, gk, gl, sz0, sz1, lz0, lz1, d1, by omega, fun H25 b25 g25 => ?_⟩
          exact ⟨_, rfl, iteF ⟨_, _, rfl, (bB.trans b24).trans b25, g25.mono (by omega)⟩⟩
      · rintro σ HB ⟨v7, v12, rfl, bB, gB⟩
        exact ⟨_, _, _, _, _, _, _, _, _, _, _, rfl, sA.trans (But.fresh s1 ng ((b116.trans b1623).trans bB))⟩
  · rintro σ HA ⟨v1, v3, v4, v5, v6, v7, v8, v9, v10, v11, v12, rfl, sA⟩
    --END
    refine ⟨(by show 1 ≤ sizeLine; decide), fun z1 nz1 => ?_⟩
    obtain ⟨Hz1, ez1, sz1, hz1⟩ := fresh (.lst [V.int 2]) nz1
    rw [ez1]
    refine ⟨(by show 1 ≤ sizeLine; decide), fun z2 nz2 => ?_⟩
    obtain ⟨Hz2, ez2, sz2, hz2⟩ := fresh (.lst [V.int 1]) nz2
    rw [ez2]
    refine ⟨(by show 0 ≤ sizeLine; decide), fun z3 nz3 => ?_⟩
    obtain ⟨Hz3, ez3, sz3, hz3⟩ := fresh (.lst ([] : List V)) nz3
    rw [ez3]
    refine ⟨(by show 0 ≤ sizeLine; decide), fun z4 nz4 => ?_⟩
    obtain ⟨Hz4, ez4, sz4, hz4⟩ := fresh (.lst ([] : List V)) nz4
    rw [ez4]
    refine ⟨_, _, _, _, _, rfl, .inl ⟨2, rfl, by decide, by decide, .inl ⟨z1, ([2] : List Int), rfl, (sz4 _ _ (sz3 _ _ (sz2 _ _ hz1))), ⟨by decide, by decide⟩, .inl ⟨z2, ([1] : List Int), rfl, (sz4 _ _ (sz3 _ _ hz2)), (by unfold Smp; decide), rfl, .inl ⟨z3, ([] : List Int), rfl, (sz4 _ _ hz3), ⟨by decide, by decide⟩, .inl ⟨z4, ([] : List Int), rfl, hz4, (by unfold Smp; decide), rfl, fun HT1 sT1 => ?_⟩⟩⟩⟩⟩⟩
    rw [told_1]
    refine ⟨(by show 1 ≤ sizeLine; decide), fun z5 nz5 => ?_⟩
    obtain ⟨Hz5, ez5, sz5, hz5⟩ := fresh (.lst [V.int 1]) nz5
    rw [ez5]
    refine ⟨_, rfl, (by show 1 ≤ sizeLine; decide), fun z6 nz6 => ?_⟩
    obtain ⟨Hz6, ez6, sz6, hz6⟩ := fresh (.lst [V.int (-1)]) nz6
    rw [ez6]
    refine ⟨(by show 1 ≤ sizeLine; decide), fun z7 nz7 => ?_⟩
    obtain ⟨Hz7, ez7, sz7, hz7⟩ := fresh (.lst [V.int 0]) nz7
    rw [ez7]
    refine ⟨_, rfl, (by show 1 ≤ sizeLine; decide), fun z8 nz8 => ?_⟩
    obtain ⟨Hz8, ez8, sz8, hz8⟩ := fresh (.lst [V.int (-1)]) nz8
    rw [ez8]
    refine ⟨_, _, _, _, _, rfl, .inl ⟨1, rfl, by decide, by decide, .inl ⟨z5, ([1] : List Int), rfl, (sz8 _ _ (sz7 _ _ (sz6 _ _ hz5))), ⟨by decide, by decide⟩, .inl ⟨z6, ([-1] : List Int), rfl, (sz8 _ _ (sz7 _ _ hz6)), (by unfold Smp; decide), rfl, .inl ⟨z7, ([0] : List Int), rfl, (sz8 _ _ hz7), ⟨by decide, by decide⟩, .inl ⟨z8, ([-1] : List Int), rfl, hz8, (by unfold Smp; decide), rfl, fun HT2 sT2 => ?_⟩⟩⟩⟩⟩⟩
    rw [told_2]
    refine ⟨(by show 0 ≤ sizeLine; decide), fun z9 nz9 => ?_⟩
    obtain ⟨Hz9, ez9, sz9, hz9⟩ := fresh (.lst ([] : List V)) nz9
    rw [ez9]
    refine ⟨(by show 0 ≤ sizeLine; decide), fun z10 nz10 => ?_⟩
    obtain ⟨Hz10, ez10, sz10, hz10⟩ := fresh (.lst ([] : List V)) nz10
    rw [ez10]
    refine ⟨(by show 0 ≤ sizeLine; decide), fun z11 nz11 => ?_⟩
    obtain ⟨Hz11, ez11, sz11, hz11⟩ := fresh (.lst ([] : List V)) nz11
    rw [ez11]
    refine ⟨(by show 0 ≤ sizeLine; decide), fun z12 nz12 => ?_⟩
    obtain ⟨Hz12, ez12, sz12, hz12⟩ := fresh (.lst ([] : List V)) nz12
    rw [ez12]
    refine ⟨_, _, _, _, _, rfl, .inl ⟨5, rfl, by decide, by decide, .inl ⟨z9, ([] : List Int), rfl, (sz12 _ _ (sz11 _ _ (sz10 _ _ hz9))), ⟨by decide, by decide⟩, .inl ⟨z10, ([] : List Int), rfl, (sz12 _ _ (sz11 _ _ hz10)), (by unfold Smp; decide), rfl, .inl ⟨z11, ([] : List Int), rfl, (sz12 _ _ hz11), ⟨by decide, by decide⟩, .inl ⟨z12, ([] : List Int), rfl, hz12, (by unfold Smp; decide), rfl, fun HT3 sT3 => ?_⟩⟩⟩⟩⟩⟩
    rw [told_3]
    refine ⟨(by show 3 ≤ sizeLine; decide), fun z13 nz13 => ?_⟩
    obtain ⟨Hz13, ez13, sz13, hz13⟩ := fresh (.lst [V.int 2, .int 1, .int 0]) nz13
    rw [ez13]
    refine ⟨_, rfl, .inl ⟨rfl, _, .inl (.inl hz13)⟩, (by show 3 ≤ sizeLine; decide), fun z14 nz14 => ?_⟩
    obtain ⟨Hz14, ez14, sz14, hz14⟩ := fresh (.lst [V.int 0, .int 1, .int 2]) nz14
    rw [ez14]
    refine ⟨_, rfl, (by show 3 ≤ sizeLine; decide), fun z15 nz15 => ?_⟩
    obtain ⟨Hz15, ez15, sz15, hz15⟩ := fresh (.lst [V.int 2, .int 0, .int (-1)]) nz15
    rw [ez15]
    refine ⟨(by show 2 ≤ sizeLine; decide), fun z16 nz16 => ?_⟩
    obtain ⟨Hz16, ez16, sz16, hz16⟩ := fresh (.lst [V.int 0, .int 1]) nz16
    rw [ez16]
    refine ⟨(by show 2 ≤ sizeLine; decide), fun z17 nz17 => ?_⟩
    obtain ⟨Hz17, ez17, sz17, hz17⟩ := fresh (.lst [V.int 1, .int 1]) nz17
    rw [ez17]
    refine ⟨rfl, _, _, _, _, _, rfl, .inl ⟨4, rfl, by decide, by decide, .inl ⟨z17, ([1, 1] : List Int), rfl, hz17, ⟨by decide, by decide⟩, .inl ⟨z16, ([0, 1] : List Int), rfl, (sz17 _ _ hz16), (by unfold Smp; decide), rfl, .inl ⟨z15, ([2, 0, -1] : List Int), rfl, (sz17 _ _ (sz16 _ _ hz15)), ⟨by decide, by decide⟩, .inl ⟨z14, ([0, 1, 2] : List Int), rfl, (sz17 _ _ (sz16 _ _ (sz15 _ _ hz14))), (by unfold Smp; decide), rfl, fun HT4 sT4 => ?_⟩⟩⟩⟩⟩⟩
    rw [told_4]
    refine ⟨z13, _, _, rfl, rfl, (sT4 _ _ (sz17 _ _ (sz16 _ _ (sz15 _ _ (sz14 _ _ hz13))))), (by show 3 < sizeLine; decide), ?_⟩
    obtain ⟨HU4, eU4, hU4⟩ : ∃ X, upd HT4 z13 (.lst ([V.int 2, .int 1, .int 0] ++ [V.int 2])) = X ∧ X z13 = some (.lst [V.int 2, .int 1, .int 0, .int 2]) := ⟨_, rfl, upd_same⟩
    rw [eU4]
    have hz13 := hU4
    refine ⟨_, rfl, .inl ⟨rfl, _, .inl (.inl hz13)⟩, (by show 0 ≤ sizeLine; decide), fun z18 nz18 => ?_⟩
    obtain ⟨Hz18, ez18, sz18, hz18⟩ := fresh (.lst ([] : List V)) nz18
    rw [ez18]
    refine ⟨(by show 0 ≤ sizeLine; decide), fun z19 nz19 => ?_⟩
    obtain ⟨Hz19, ez19, sz19, hz19⟩ := fresh (.lst ([] : List V)) nz19
    rw [ez19]
    refine ⟨(by show 1 ≤ sizeLine; decide), fun z20 nz20 => ?_⟩
    obtain ⟨Hz20, ez20, sz20, hz20⟩ := fresh (.lst [V.int 1]) nz20
    rw [ez20]
    refine ⟨(by show 1 ≤ sizeLine; decide), fun z21 nz21 => ?_⟩
    obtain ⟨Hz21, ez21, sz21, hz21⟩ := fresh (.lst [V.int 4]) nz21
    rw [ez21]
    refine ⟨rfl, _, _, _, _, _, rfl, .inl ⟨3, rfl, by decide, by decide, .inl ⟨z21, ([4] : List Int), rfl, hz21, ⟨by decide, by decide⟩, .inl ⟨z20, ([1] : List Int), rfl, (sz21 _ _ hz20), (by unfold Smp; decide), rfl, .inl ⟨z19, ([] : List Int), rfl, (sz21 _ _ (sz20 _ _ hz19)), ⟨by decide, by decide⟩, .inl ⟨z18, ([] : List Int), rfl, (sz21 _ _ (sz20 _ _ (sz19 _ _ hz18))), (by unfold Smp; decide), rfl, fun HT5 sT5 => ?_⟩⟩⟩⟩⟩⟩
    rw [told_5]
    refine ⟨z13, _, _, rfl, rfl, (sT5 _ _ (sz21 _ _ (sz20 _ _ (sz19 _ _ (sz18 _ _ hz13))))), (by show 4 < sizeLine; decide), ?_⟩
    obtain ⟨HU5, eU5, hU5⟩ : ∃ X, upd HT5 z13 (.lst ([V.int 2, .int 1, .int 0, .int 2] ++ [V.int 2])) = X ∧ X z13 = some (.lst [V.int 2, .int 1, .int 0, .int 2, .int 2]) := ⟨_, rfl, upd_same⟩
    rw [eU5]
    have hz13 := hU5
    refine ⟨_, rfl, (by show 5 ≤ sizeLine; decide), fun z22 nz22 => ?_⟩
    obtain ⟨Hz22, ez22, sz22, hz22⟩ := fresh (.lst [V.int 2, .int 1, .int 0, .int 2, .int 2]) nz22
    rw [ez22]
    exact eqD_lst (ns := [2, 1, 0, 2, 2]) (ms := [2, 1, 0, 2, 2]) (.inl (.inl (sz22 _ _ hz13))) (.inl (.inl hz22)) ⟨_, rfl, iteDT rfl ⟨rfl, fun H' _ => q H'⟩⟩
end
end My

open PySem PySem.W PySem.Calls PyProof.Rows
set_option maxRecDepth 100000 in
set_option maxHeartbeats 0 in
theorem PySem.Challenge.cw_wholesound_k21_rows_alike_for_ever_holds : PySem.Challenge.rw_wholesound_k21_rows_alike_for_ever.Holds := by
  w_on; o_law
  refine HandSHeadRun.head_any (r := OpenLaw.row PySem.Challenge.rw_wholesound_k21_rows_alike_for_ever) (q := view (OpenLaw.row PySem.Challenge.rw_wholesound_k21_rows_alike_for_ever).prog [50]) (H := My.hk) (ob := My.ob) (M := 8000) (loose := My.loose) (d := HandSHeadRun.topDef (OpenLaw.row PySem.Challenge.rw_wholesound_k21_rows_alike_for_ever).prog 50) (kwd := []) My.ob_eq
    (by kernel_rfl) (fun s => by kernel_rfl) My.run (by kernel_rfl) (by kernel_rfl) (by kernel_rfl) (by rfl) (by first | assumption | decide +kernel) (by decide +kernel) ⟨rfl, rfl, rfl, rfl, rfl, by decide +kernel⟩ ?hw ?hc
  case hw => w_witness2
  case hc =>
    refine My.end_g (l := PySem.Challenge.rw_wholesound_k21_rows_alike_for_ever) (n := 63) (k := 10) (x := "_law_script") rfl (by decide) (by kernel_rfl) ⟨rfl, by decide, by decide⟩ ?F
    intro w mg fa h Y G hmg0
    obtain ⟨K, KX, c⟩ := Y
    have hmg : mg ("law" : PySem.Str) = some (.ref fa) := by
      have e : (HandSHeadRun.topDef (OpenLaw.row PySem.Challenge.rw_wholesound_k21_rows_alike_for_ever).prog 50).name = ("law" : PySem.Str) := by kernel_rfl
      rw [← e]
      exact hmg0
    have T : My.Top K mg := My.top_mk KX G c
    have e := hmg.symm.trans T.g_law
    cases e
    have b := L2.FunD.bindsA (ps := ["_law_script"]) T.F_law fun _ _ _ _ _ _ us hl => match us, hl with | [_], _ => rfl
    exact ⟨K, T.fd_law, My.sp_law K, KX, fun s v => b s [v] rfl, fun H a ns hl hS => ⟨a, ns, rfl, hS, hl, fun _ => rfl⟩, fun base _ _ => My.G_law (pf := ⟨by kernel_rfl, by kernel_rfl⟩) T⟩


