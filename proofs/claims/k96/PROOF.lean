import PyProof.Rows.All
import Wide.All
import OpenK.AllK
import Wide.FinOn
import KE.KStateDown
import Lean
import HandS.ForMost
import HandS.Exc
import HandS.Flow
import HandS.DictComp
import HandS.Style
import HandS.Wide
import HandS.WideBits
import HandS.IsInst
import HandS.Codes
import HandS.Walk
import HandS.Words
import HandS.WordsExc
import HandS.Defaults
import HandS.Head0
import HandS.Head1
import HandS.Head2
import HandS.HeadEnd
import HandS.HeadHook1
import HandS.HeadHook2
import HandS.SortInts
import PyProof.Rows.SortShellAny
import PyProof.InstNe
import KE.DataMinMax
import KE.SortData
import KE.IntBitsLaws
import KE.BitLaws
import HandS.Deep
import HandS.SetKeys
import PyProof.Rows.StrMul
import HandS.TupLe
import HandS.Property
import HandS.Conv
import HandS.NoneIn
import HandS.SetFor
import HandS.Strs
import HandS.Sort
import HandS.StrMore
import HandS.ExcInit
import HandS.ExcSuper
import HandS.Nested
import KE.KExcSuper
import HandS.ExcField
import HandS.TryMany
import HandS.ExcIs
import HandS.TryOnly
import HandS.CallSlots
import KE.KDictDisplayH
import PyProof.StrLawsFirst
import KE.GoesZip
import KE.GoesMore
import HandS.Zip
import PyProof.CallType
import PyProof.ZipIter
import PyProof.TupleIter
import PyProof.Rows.CallKwBuiltin
import HandS.Star
import PySem.Challenge.RW_wholesound_k96_whole_tables_of_starts
set_option Elab.async false
set_option linter.all false
set_option maxRecDepth 100000
set_option maxHeartbeats 4000000
set_option exponentiation.threshold 100000
namespace Pre
open PySem PySem.Spec PyProof.Rows L2
/-! ### heaps -/
theorem same_upd {H : Hp} {p : Addr} {o : HO} (h : H p = none) : Same H (upd H p o) := fun b x e => by
  rw [upd_ne (ne_of_none e h)]
  exact e
/-- a fresh thing that is then changed is no change of what was -/
theorem same_over {H H' : Hp} {p : Addr} {o : HO} (n : H p = none) (s : Same H H') : Same H (upd H' p o) := fun b x e => by
  rw [upd_ne (ne_of_none e n)]
  exact s b x e
theorem Same.tup {K : PySem.W.Frag} {H H' : Hp} {a : Addr} {xs : List V} (e : Same H H') (h : SqT K H a xs) : SqT K H' a xs := by
  rcases h with (h | ⟨o, h⟩) | h
  · exact .inl (.inl (e _ _ h))
  · exact .inl (.inr ⟨o, e _ _ h⟩)
  · exact .inr h
mutual
theorem dp_same {K : PySem.W.Frag} {H H' : Hp} (s : Same H H') : ∀ (d : PyData) (v : V), Dp K H v d → Dp K H' v d
  | .none, _, h => by cases h; exact .non
  | .bool _, _, h => by cases h; exact .bl _
  | .int _, _, h => by cases h; exact .int _
  | .str _, _, h => by cases h; exact .str _
  | .list ds, _, h => by cases h with | lst a b => exact .lst (s.seq a) (dps_same s ds _ b)
  | .tuple ds, _, h => by cases h with | tup a b => exact .tup (Same.tup s a) (dps_same s ds _ b)
  | .dict _, _, h => nomatch h
theorem dps_same {K : PySem.W.Frag} {H H' : Hp} (s : Same H H') : ∀ (ds : List PyData) (vs : List V), DpAll K H vs ds → DpAll K H' vs ds
  | [], _, h => by cases h; exact .nil
  | d :: ds, _, h => by cases h with | cons a b => exact .cons (dp_same s d _ a) (dps_same s ds _ b)
end
theorem dp_ints {K : PySem.W.Frag} {H : Hp} : ∀ ns : List Int, DpAll K H (ns.map V.int) (ns.map PyData.int)
  | [] => .nil
  | n :: r => .cons (.int n) (dp_ints r)
theorem eqv_ints : ∀ ns ms : List Int, PyData.eqvAll (ns.map PyData.int) (ms.map PyData.int) = decide (ns = ms)
  | [], [] => rfl
  | [], _ :: _ => rfl
  | _ :: _, [] => rfl
  | n :: r, m :: q => by
    show (PyData.eqv (.int n) (.int m) && PyData.eqvAll (r.map PyData.int) (q.map PyData.int)) = decide (n :: r = m :: q)
    rw [eqv_ints r q]
    show ((n == m) && decide (r = q)) = decide (n :: r = m :: q)
    by_cases h : n = m
    · subst h; simp
    · simp [h]
theorem lay_ints : ∀ ns : List Int, PyData.canLayAll0 (ns.map PyData.int) = true
  | [] => rfl
  | n :: r => by
    show (PyData.canLay0 (.int n) && PyData.canLayAll0 (r.map PyData.int)) = true
    rw [lay_ints r]
    rfl
theorem depth_ints : ∀ ns : List Int, PyData.depthAll (ns.map PyData.int) = 0
  | [] => by simp [PyData.depthAll]
  | n :: r => by
    show PyData.depthAll (.int n :: r.map PyData.int) = 0
    rw [PyData.depthAll, depth_ints r]
    simp [PyData.depth]
theorem shaped_ints (ns : List Int) : SeqAt.shaped (.list (ns.map PyData.int)) = true := by
  unfold SeqAt.shaped
  rw [PyData.canLay0, lay_ints, PyData.depth, depth_ints]
  rfl
theorem shaped_tup (ns : List Int) : SeqAt.shaped (.tuple (ns.map PyData.int)) = true := by
  unfold SeqAt.shaped
  rw [PyData.canLay0, lay_ints, PyData.depth, depth_ints]
  rfl
/-! ### comparisons of lists and tuples of whole numbers that are told alike -/
theorem ne_tup {K : PySem.W.Frag} {H : Hp} {a b : Addr} {ns : List Int} {Q : V → Hp → Prop} (ha : SqT K H a (ns.map V.int)) (hb : SqT K H b (ns.map V.int)) (q : Q (.bl false) H) : rNeD K (.ref a) (.ref b) H Q := by
  refine ⟨.tuple (ns.map PyData.int), .tuple (ns.map PyData.int), .tup ha (dp_ints ns), .tup hb (dp_ints ns), shaped_tup ns, shaped_tup ns, ?_⟩
  rw [PyData.eqv, eqv_ints, decide_eq_true rfl]
  exact q
theorem eq_tup {K : PySem.W.Frag} {H : Hp} {a b : Addr} {ns : List Int} {Q : V → Hp → Prop} (ha : SqT K H a (ns.map V.int)) (hb : SqT K H b (ns.map V.int)) (q : Q (.bl true) H) : rEqD K (.ref a) (.ref b) H Q := by
  refine ⟨.tuple (ns.map PyData.int), .tuple (ns.map PyData.int), .tup ha (dp_ints ns), .tup hb (dp_ints ns), shaped_tup ns, shaped_tup ns, ?_⟩
  rw [PyData.eqv, eqv_ints, decide_eq_true rfl]
  exact q
/-- lists of whole numbers, compared -/
theorem eqD_lst {K : PySem.W.Frag} {H : Hp} {a b : Addr} {ns ms : List Int} {Q : V → Hp → Prop} (ha : SqL K H a (ns.map V.int)) (hb : SqL K H b (ms.map V.int)) (q : Q (.bl (decide (ns = ms))) H) : rEqD K (.ref a) (.ref b) H Q := by
  refine ⟨.list (ns.map PyData.int), .list (ms.map PyData.int), .lst ha (dp_ints ns), .lst hb (dp_ints ms), shaped_ints ns, shaped_ints ms, ?_⟩
  rw [PyData.eqv, eqv_ints]
  exact q
theorem neD_lst {K : PySem.W.Frag} {H : Hp} {a b : Addr} {ns ms : List Int} {Q : V → Hp → Prop} (ha : SqL K H a (ns.map V.int)) (hb : SqL K H b (ms.map V.int)) (q : Q (.bl (!decide (ns = ms))) H) : rNeD K (.ref a) (.ref b) H Q := by
  refine ⟨.list (ns.map PyData.int), .list (ms.map PyData.int), .lst ha (dp_ints ns), .lst hb (dp_ints ms), shaped_ints ns, shaped_ints ms, ?_⟩
  rw [PyData.eqv, eqv_ints]
  exact q
theorem ne_lst {K : PySem.W.Frag} {H : Hp} {a b : Addr} {ns : List Int} {Q : V → Hp → Prop} (ha : SqL K H a (ns.map V.int)) (hb : SqL K H b (ns.map V.int)) (q : Q (.bl false) H) : rNeD K (.ref a) (.ref b) H Q :=
  neD_lst ha hb (by rw [decide_eq_true rfl]; exact q)
theorem eq_lst {K : PySem.W.Frag} {H : Hp} {a b : Addr} {ns : List Int} {Q : V → Hp → Prop} (ha : SqL K H a (ns.map V.int)) (hb : SqL K H b (ns.map V.int)) (q : Q (.bl true) H) : rEqD K (.ref a) (.ref b) H Q :=
  eqD_lst ha hb (by rw [decide_eq_true rfl]; exact q)
/-! ### powers -/
def CPowW (i j : Int) : Prop := 0 ≤ j ∧ (Builtin.Int.intBits i : Int) * j ≤ 2 ^ 27
theorem op_powW {X : Cx} : OpR X (binaryOp .Pow) (rI CPowW fun i j => .int (i ^ j.toNat)) := opI fun _ _ _ _ _ _ _ hc q => pow_int hc.1 hc.2 q
/-! ### comprehensions whose parts leave what is tracked as it is: sel tells of each item what comes of it -/
theorem take_fm {α : Type} {l : List (Option α)} {i : Nat} {o : Option α} (h : l[i]? = some o) : (l.take (i + 1)).filterMap id = (l.take i).filterMap id ++ o.toList := by
  rw [List.take_add_one, h, List.filterMap_append]
  cases o <;> rfl
theorem fm_len {α : Type} (l : List (Option α)) (i : Nat) : ((l.take i).filterMap id).length ≤ l.length :=
  Nat.le_trans (List.length_filterMap_le _ _) (by rw [List.length_take]; omega)
theorem lc_selL {K : PySem.W.Frag} {a : Addr} {xs : List V} {j : Nat} {tt : TT} {te : TE} {vs : List Nat} {σ : L2.St} {H1 : Hp} {D : Addr} {Qd : Hp → Prop} (sel : List (Option V)) (nD : H1 D = none) (hS : SqL K H1 a xs) (hlen : sel.length = xs.length) (hz : xs.length < sizeLine)
    (hw : ∀ x, wipe ((wipe σ vs).set j (some x)) vs = wipe σ vs)
    (hs : ∀ (i : Nat) (x : V) (o : Option V) (H' : Hp), xs[i]? = some x → sel[i]? = some o → Same H1 H' → ∀ Qt : Option V → Hp → Prop, (∀ H'', Same H' H'' → Qt o H'') →
      tt ((wipe σ vs).set j (some x)) H' fun b H3 => if b = true then te ((wipe σ vs).set j (some x)) H3 fun y H4 => Qt (some y) H4 else Qt none H3)
    (hd : ∀ H', Same H1 H' → H' D = some (.lst (sel.filterMap id)) → Qd H') :
    ∃ W : Nat → Nat → Hp → Prop, (∃ m, W 0 m (upd H1 D (.lst []))) ∧ ∀ i m H, W i m H →
      ((Itl K a).stop i H ∧ Qd H) ∨ ((Itl K a).go i H ∧ ∃ Nx : Hp → Prop, (∀ H', Nx H' → ∃ m', m' < m ∧ W (i + 1) m' H') ∧ ∀ x H', (Itl K a).yld i H x H' → gName j x (wipe σ vs) H' fun σ2 H2 => wipe σ2 vs = wipe σ vs ∧ tt σ2 H2 fun b H3 =>
        if b = true then te σ2 H3 fun y H4 => ∃ acc, H4 D = some (.lst acc) ∧ acc.length < sizeLine ∧ Nx (upd H4 D (.lst (acc ++ [y]))) else Nx H3) := by
  refine lc_list (K := K) (a := a) (xs := xs) (fun i H => Same H1 H ∧ H D = some (.lst ((sel.take i).filterMap id))) ⟨same_upd nD, upd_same⟩ (fun i H _ p => p.1.seq hS) ?_ ?_
  · rintro i x H hx ⟨s, hD⟩
    refine ⟨hw x, ?_⟩
    have hi : i < sel.length := by rw [hlen]; exact (List.getElem?_eq_some_iff.mp hx).1
    have ho : sel[i]? = some sel[i] := List.getElem?_eq_getElem hi
    have hl : ((sel.take i).filterMap id).length < sizeLine := Nat.lt_of_le_of_lt (fm_len sel i) (by omega)
    refine hs i x sel[i] H hx ho s (fun o H4 => match o with
      | some y => ∃ acc, H4 D = some (.lst acc) ∧ acc.length < sizeLine ∧ (Same H1 (upd H4 D (.lst (acc ++ [y]))) ∧ (upd H4 D (.lst (acc ++ [y]))) D = some (.lst ((sel.take (i + 1)).filterMap id)))
      | none => Same H1 H4 ∧ H4 D = some (.lst ((sel.take (i + 1)).filterMap id))) fun H4 s4 => ?_
    generalize sel[i] = o at ho ⊢
    cases o with
    | some y =>
      refine ⟨_, s4 _ _ hD, hl, same_over nD (s.trans s4), ?_⟩
      rw [upd_same, take_fm ho]
      rfl
    | none =>
      refine ⟨s.trans s4, ?_⟩
      rw [take_fm ho, s4 _ _ hD]
      simp
  · rintro H ⟨s, hD⟩
    refine hd H s ?_
    rw [hD, ← hlen, List.take_length]
theorem lc_selR {lo : Int} {n : Nat} {j : Nat} {tt : TT} {te : TE} {vs : List Nat} {σ : L2.St} {H1 : Hp} {D : Addr} {Qd : Hp → Prop} (sel : List (Option V)) (nD : H1 D = none) (hlen : sel.length = n) (hz : n < sizeLine)
    (hw : ∀ x, wipe ((wipe σ vs).set j (some x)) vs = wipe σ vs)
    (hs : ∀ (i : Nat) (o : Option V) (H' : Hp), i < n → sel[i]? = some o → Same H1 H' → ∀ Qt : Option V → Hp → Prop, (∀ H'', Same H' H'' → Qt o H'') →
      tt ((wipe σ vs).set j (some (.int (lo + (i : Int))))) H' fun b H3 => if b = true then te ((wipe σ vs).set j (some (.int (lo + (i : Int))))) H3 fun y H4 => Qt (some y) H4 else Qt none H3)
    (hd : ∀ H', Same H1 H' → H' D = some (.lst (sel.filterMap id)) → Qd H') :
    ∃ W : Nat → Nat → Hp → Prop, (∃ m, W 0 m (upd H1 D (.lst []))) ∧ ∀ i m H, W i m H →
      ((Itr lo n).stop i H ∧ Qd H) ∨ ((Itr lo n).go i H ∧ ∃ Nx : Hp → Prop, (∀ H', Nx H' → ∃ m', m' < m ∧ W (i + 1) m' H') ∧ ∀ x H', (Itr lo n).yld i H x H' → gName j x (wipe σ vs) H' fun σ2 H2 => wipe σ2 vs = wipe σ vs ∧ tt σ2 H2 fun b H3 =>
        if b = true then te σ2 H3 fun y H4 => ∃ acc, H4 D = some (.lst acc) ∧ acc.length < sizeLine ∧ Nx (upd H4 D (.lst (acc ++ [y]))) else Nx H3) := by
  refine lc_range (lo := lo) (n := n) (fun i H => Same H1 H ∧ H D = some (.lst ((sel.take i).filterMap id))) ⟨same_upd nD, upd_same⟩ ?_ ?_
  · rintro i H hi' ⟨s, hD⟩
    refine ⟨hw _, ?_⟩
    have hi : i < sel.length := by rw [hlen]; exact hi'
    have ho : sel[i]? = some sel[i] := List.getElem?_eq_getElem hi
    have hl : ((sel.take i).filterMap id).length < sizeLine := Nat.lt_of_le_of_lt (fm_len sel i) (by omega)
    refine hs i sel[i] H hi' ho s (fun o H4 => match o with
      | some y => ∃ acc, H4 D = some (.lst acc) ∧ acc.length < sizeLine ∧ (Same H1 (upd H4 D (.lst (acc ++ [y]))) ∧ (upd H4 D (.lst (acc ++ [y]))) D = some (.lst ((sel.take (i + 1)).filterMap id)))
      | none => Same H1 H4 ∧ H4 D = some (.lst ((sel.take (i + 1)).filterMap id))) fun H4 s4 => ?_
    generalize sel[i] = o at ho ⊢
    cases o with
    | some y =>
      refine ⟨_, s4 _ _ hD, hl, same_over nD (s.trans s4), ?_⟩
      rw [upd_same, take_fm ho]
      rfl
    | none =>
      refine ⟨s.trans s4, ?_⟩
      rw [take_fm ho, s4 _ _ hD]
      simp
  · rintro H ⟨s, hD⟩
    refine hd H s ?_
    rw [hD, ← hlen, List.take_length]
theorem fm_some {α : Type} (ys : List α) : (ys.map some).filterMap id = ys := by
  rw [List.filterMap_map]
  show List.filterMap (fun y => some y) ys = ys
  exact List.filterMap_some
/-- no test: ys tells what comes of each item -/
theorem lc_mapL {K : PySem.W.Frag} {a : Addr} {xs : List V} {j : Nat} {te : TE} {vs : List Nat} {σ : L2.St} {H1 : Hp} {D : Addr} {Qd : Hp → Prop} (ys : List V) (nD : H1 D = none) (hS : SqL K H1 a xs) (hlen : ys.length = xs.length) (hz : xs.length < sizeLine)
    (hw : ∀ x, wipe ((wipe σ vs).set j (some x)) vs = wipe σ vs)
    (hs : ∀ (i : Nat) (x y : V) (H' : Hp), xs[i]? = some x → ys[i]? = some y → Same H1 H' → ∀ Qt : V → Hp → Prop, (∀ H'', Same H' H'' → Qt y H'') → te ((wipe σ vs).set j (some x)) H' Qt)
    (hd : ∀ H', Same H1 H' → H' D = some (.lst ys) → Qd H') :
    ∃ W : Nat → Nat → Hp → Prop, (∃ m, W 0 m (upd H1 D (.lst []))) ∧ ∀ i m H, W i m H →
      ((Itl K a).stop i H ∧ Qd H) ∨ ((Itl K a).go i H ∧ ∃ Nx : Hp → Prop, (∀ H', Nx H' → ∃ m', m' < m ∧ W (i + 1) m' H') ∧ ∀ x H', (Itl K a).yld i H x H' → gName j x (wipe σ vs) H' fun σ2 H2 => wipe σ2 vs = wipe σ vs ∧ tYes σ2 H2 fun b H3 =>
        if b = true then te σ2 H3 fun y H4 => ∃ acc, H4 D = some (.lst acc) ∧ acc.length < sizeLine ∧ Nx (upd H4 D (.lst (acc ++ [y]))) else Nx H3) := by
  refine lc_selL (K := K) (a := a) (xs := xs) (tt := tYes) (ys.map some) nD hS (by rw [List.length_map]; exact hlen) hz hw ?_ ?_
  · intro i x o H' hx ho s Qt qt
    rw [List.getElem?_map] at ho
    obtain ⟨y, hy, rfl⟩ := Option.map_eq_some_iff.mp ho
    show if true = true then te ((wipe σ vs).set j (some x)) H' (fun y H4 => Qt (some y) H4) else Qt none H'
    exact iteT (hs i x y H' hx hy s (fun y H4 => Qt (some y) H4) qt)
  · intro H' s hD
    rw [fm_some] at hD
    exact hd H' s hD
theorem lc_mapR {lo : Int} {n : Nat} {j : Nat} {te : TE} {vs : List Nat} {σ : L2.St} {H1 : Hp} {D : Addr} {Qd : Hp → Prop} (ys : List V) (nD : H1 D = none) (hlen : ys.length = n) (hz : n < sizeLine)
    (hw : ∀ x, wipe ((wipe σ vs).set j (some x)) vs = wipe σ vs)
    (hs : ∀ (i : Nat) (y : V) (H' : Hp), i < n → ys[i]? = some y → Same H1 H' → ∀ Qt : V → Hp → Prop, (∀ H'', Same H' H'' → Qt y H'') → te ((wipe σ vs).set j (some (.int (lo + (i : Int))))) H' Qt)
    (hd : ∀ H', Same H1 H' → H' D = some (.lst ys) → Qd H') :
    ∃ W : Nat → Nat → Hp → Prop, (∃ m, W 0 m (upd H1 D (.lst []))) ∧ ∀ i m H, W i m H →
      ((Itr lo n).stop i H ∧ Qd H) ∨ ((Itr lo n).go i H ∧ ∃ Nx : Hp → Prop, (∀ H', Nx H' → ∃ m', m' < m ∧ W (i + 1) m' H') ∧ ∀ x H', (Itr lo n).yld i H x H' → gName j x (wipe σ vs) H' fun σ2 H2 => wipe σ2 vs = wipe σ vs ∧ tYes σ2 H2 fun b H3 =>
        if b = true then te σ2 H3 fun y H4 => ∃ acc, H4 D = some (.lst acc) ∧ acc.length < sizeLine ∧ Nx (upd H4 D (.lst (acc ++ [y]))) else Nx H3) := by
  refine lc_selR (lo := lo) (n := n) (tt := tYes) (ys.map some) nD (by rw [List.length_map]; exact hlen) hz hw ?_ ?_
  · intro i o H' hi ho s Qt qt
    rw [List.getElem?_map] at ho
    obtain ⟨y, hy, rfl⟩ := Option.map_eq_some_iff.mp ho
    show if true = true then te ((wipe σ vs).set j (some (.int (lo + (i : Int))))) H' (fun y H4 => Qt (some y) H4) else Qt none H'
    exact iteT (hs i y H' hi hy s (fun y H4 => Qt (some y) H4) qt)
  · intro H' s hD
    rw [fm_some] at hD
    exact hd H' s hD
/-- an item of a list of whole numbers -/
theorem int_at {ns : List Int} {i : Nat} {x : V} (h : (ns.map V.int)[i]? = some x) : ∃ n, ns[i]? = some n ∧ x = .int n := by
  rw [List.getElem?_map] at h
  obtain ⟨n, hn, e⟩ := Option.map_eq_some_iff.mp h
  exact ⟨n, hn, e.symm⟩
/-! ### rules with the written part named (within a comprehension Lean doesn't find it) -/
section
variable {X : Cx}
theorem k_len (K : PySem.W.Frag) (h : X.K = K) : CallR X (.builtin "len") (fun xs H Q => ∃ p ys, xs = [.ref p] ∧ (SqL K H p ys ∨ SqT K H p ys) ∧ Q (.int ys.length) H) := by subst h; exact call_len_seq
theorem k_sum (K : PySem.W.Frag) (h : X.K = K) (hc : X.calm = true) : CallR X (.builtin "sum") (rSum K) := by subst h; exact cr_sum hc
theorem k_max (K : PySem.W.Frag) (h : X.K = K) (hc : X.calm = true) : CallR X (.builtin "max") (rMax K) := by subst h; exact cr_max hc
theorem k_min (K : PySem.W.Frag) (h : X.K = K) (hc : X.calm = true) : CallR X (.builtin "min") (rMin K) := by subst h; exact cr_min hc
theorem k_isi (K : PySem.W.Frag) (h : X.K = K) : CallR X (.builtin "isinstance") (rIsi K) := by subst h; exact call_isi
theorem k_listOf (K : PySem.W.Frag) (h : X.K = K) : CallR X (.type "list") (fun xs H Q => ∃ p ys, xs = [.ref p] ∧ (SqL K H p ys ∨ SqT K H p ys) ∧ ∀ l, H l = none → Q (.ref l) (upd H l (.lst ys))) := by subst h; exact call_list_of
theorem k_tupleOf (K : PySem.W.Frag) (h : X.K = K) : CallR X (.type "tuple") (fun xs H Q => ∃ p ys, xs = [.ref p] ∧ ((SqL K H p ys ∧ ∀ l, H l = none → Q (.ref l) (upd H l (.tup ys))) ∨ (SqT K H p ys ∧ Q (.ref p) H))) := by subst h; exact call_tuple_of
theorem k_ixL (K : PySem.W.Frag) (h : X.K = K) : IxR X (rIxL K) := by subst h; exact ix_list
theorem k_ixT (K : PySem.W.Frag) (h : X.K = K) : IxR X (rIxT K) := by subst h; exact ix_tup
theorem k_slL (K : PySem.W.Frag) (h : X.K = K) : SlR X (rSlL K) := by subst h; exact sl_list
theorem k_slT (K : PySem.W.Frag) (h : X.K = K) : SlR X (rSlT K) := by subst h; exact sl_tup
theorem k_eqD (K : PySem.W.Frag) (h : X.K = K) (hu : X.A.units + 64 < cLine) : OpR X (compareOp .Eq) (rEqD K) := by subst h; exact op_eqD hu
theorem k_neD (K : PySem.W.Frag) (h : X.K = K) (hu : X.A.units + 64 < cLine) : OpR X (compareOp .NotEq) (rNeD K) := by subst h; exact op_neD hu
theorem k_in (K : PySem.W.Frag) (h : X.K = K) : OpR X (compareOp .In) (rIn K false) := by subst h; exact op_in_seq
theorem k_notIn (K : PySem.W.Frag) (h : X.K = K) : OpR X (compareOp .NotIn) (rIn K true) := by subst h; exact op_notIn_seq
theorem k_piL (K : PySem.W.Frag) (h : X.K = K) {tg l : Expr} {tl : TE} (hl : PE X l tl) : PI X tg l (iList K tl) := by subst h; exact pi_list hl
theorem k_piT (K : PySem.W.Frag) (h : X.K = K) {tg l : Expr} {tl : TE} (hl : PE X l tl) : PI X tg l (iTup K tl) := by subst h; exact pi_tup hl
theorem k_piE (K : PySem.W.Frag) (h : X.K = K) {e : Expr} {ta : TA} {p pos tpos : Pos} {elts : List Expr} {kk : Nat} (hg : Gl X "enumerate") (hm : X.mg "enumerate" = none) (ha : PA X [e] ta) (hs : starEach [e] X.env = [(false, eval e X.env)] := by rfl) : PI X (.Tuple elts kk tpos) (.Call (.Name "enumerate" p) [e] [] pos) (iEnum K ta) := by subst h; exact pi_enum hg hm ha hs
theorem k_pgT (K : PySem.W.Frag) (h : X.K = K) {es : List Expr} {k : Nat} {t : TGs} {n : Nat} {pos : Pos} (hc : X.calm = true) (hp : PGs X es t) (hn : (assignEach es X.env).length = n := by rfl) (hst : (assignEach es X.env).findIdx? (·.1) = none := by rfl) : PG X (.Tuple es k pos) (gTup K n t) := by subst h; exact pg_tup hc hp hn hst
theorem k_pgL (K : PySem.W.Frag) (h : X.K = K) {es : List Expr} {k : Nat} {t : TGs} {n : Nat} {pos : Pos} (hc : X.calm = true) (hp : PGs X es t) (hn : (assignEach es X.env).length = n := by rfl) (hst : (assignEach es X.env).findIdx? (·.1) = none := by rfl) : PG X (.Tuple es k pos) (gUnl K n t) := by subst h; exact pg_unl hc hp hn hst
theorem k_fld (K : PySem.W.Frag) (h : X.K = K) {e : Expr} {f : Str} {pos : Pos} {ta : TE} (he : PE X e ta) (hb : attributeBase e f X.env (eval e X.env) = eval e X.env) : PE X (.Attribute e f pos) (tFld K ta f) := by subst h; exact pe_fld he hb
theorem k_index (K : PySem.W.Frag) (h : X.K = K) : MtR X "list.index" (rIndex K) := by subst h; exact mt_index
end
/-! ### small things -/
theorem fresh {H : Hp} {p : Addr} (o : HO) (np : H p = none) : ∃ H', upd H p o = H' ∧ Same H H' ∧ H' p = some o := ⟨_, rfl, same_upd np, upd_same⟩
theorem cut_take (xs : List V) (k : Nat) : cutV xs none (some (k : Int)) = xs.take k := by
  unfold cutV
  rw [HT.sIx_nat, HT.sIx_none, List.drop_zero, Nat.sub_zero]
  rcases Nat.le_total k xs.length with h | h
  · rw [Nat.min_eq_left h]
  · rw [Nat.min_eq_right h, List.take_of_length_le h, List.take_length]
theorem cut_drop (xs : List V) (k : Nat) : cutV xs (some (k : Int)) none = xs.drop k := by
  unfold cutV
  rw [HT.sIx_nat, HT.sIx_none]
  rcases Nat.le_total k xs.length with h | h
  · rw [Nat.min_eq_left h, List.take_of_length_le (by rw [List.length_drop]; exact Nat.le_refl _)]
  · rw [Nat.min_eq_right h, List.drop_length, List.drop_of_length_le h, List.take_nil]
theorem rep_ints (k : Nat) (ks : List Int) : (List.replicate k (ks.map V.int)).flatten = ((List.replicate k ks).flatten).map V.int := by
  rw [List.map_flatten, List.map_replicate]
theorem rep_len {α : Type} (k : Nat) (ks : List α) : ((List.replicate k ks).flatten).length = k * ks.length := by
  induction k with
  | zero => simp
  | succ k ih => rw [List.replicate_succ, List.flatten_cons, List.length_append, ih, Nat.succ_mul]; omega
theorem rep_mem {α : Type} {k : Nat} {ks : List α} {x : α} (h : x ∈ (List.replicate k ks).flatten) : x ∈ ks := by
  obtain ⟨l, hl, hx⟩ := List.mem_flatten.mp h
  rw [(List.mem_replicate.mp hl).2] at hx
  exact hx
/-! ### comprehensions that make new things: R tells what is known of the i-th; D is no part of it -/
def Off (D : Addr) (H H' : Hp) : Prop := ∀ b o, b ≠ D → H b = some o → H' b = some o
def RelPv (R : Nat → V → Hp → Prop) (H1 : Hp) (D : Addr) (i : Nat) (H : Hp) : Prop := ∃ ys : List V, Same H1 H ∧ H D = some (.lst ys) ∧ ys.length = i ∧ ∀ (k : Nat) (y : V), ys[k]? = some y → R k y H
theorem lc_relR {lo : Int} {n : Nat} {j : Nat} {te : TE} {vs : List Nat} {σ : L2.St} {H1 : Hp} {D : Addr} {Qd : Hp → Prop} (R : Nat → V → Hp → Prop) (nD : H1 D = none) (hz : n < sizeLine)
    (mono : ∀ i y H H', Off D H H' → R i y H → R i y H')
    (hw : ∀ x, wipe ((wipe σ vs).set j (some x)) vs = wipe σ vs)
    (hs : ∀ (i : Nat) (H' : Hp) (xs : List V), i < n → Same H1 H' → H' D = some (.lst xs) → ∀ Qt : V → Hp → Prop, (∀ y H'', Same H' H'' → R i y H'' → Qt y H'') → te ((wipe σ vs).set j (some (.int (lo + (i : Int))))) H' Qt)
    (hd : ∀ H' ys, Same H1 H' → H' D = some (.lst ys) → ys.length = n → (∀ (i : Nat) (y : V), ys[i]? = some y → R i y H') → Qd H') :
    ∃ W : Nat → Nat → Hp → Prop, (∃ m, W 0 m (upd H1 D (.lst []))) ∧ ∀ i m H, W i m H →
      ((Itr lo n).stop i H ∧ Qd H) ∨ ((Itr lo n).go i H ∧ ∃ Nx : Hp → Prop, (∀ H', Nx H' → ∃ m', m' < m ∧ W (i + 1) m' H') ∧ ∀ x H', (Itr lo n).yld i H x H' → gName j x (wipe σ vs) H' fun σ2 H2 => wipe σ2 vs = wipe σ vs ∧ tYes σ2 H2 fun b H3 =>
        if b = true then te σ2 H3 fun y H4 => ∃ acc, H4 D = some (.lst acc) ∧ acc.length < sizeLine ∧ Nx (upd H4 D (.lst (acc ++ [y]))) else Nx H3) := by
  refine lc_range (lo := lo) (n := n) (RelPv R H1 D) ⟨[], same_upd nD, upd_same, rfl, fun k y h => by simp at h⟩ ?_ ?_
  · rintro i H hi ⟨ys, s, hD, hl, hR⟩
    refine ⟨hw _, ?_⟩
    show if true = true then te ((wipe σ vs).set j (some (.int (lo + (i : Int))))) H (fun y H4 => ∃ acc, H4 D = some (.lst acc) ∧ acc.length < sizeLine ∧ RelPv R H1 D (i + 1) (upd H4 D (.lst (acc ++ [y])))) else RelPv R H1 D (i + 1) H
    refine iteT (hs i H ys hi s hD _ fun y H4 s4 r4 => ?_)
    refine ⟨ys, s4 _ _ hD, by omega, ys ++ [y], same_over nD (s.trans s4), upd_same, by rw [List.length_append, hl]; rfl, fun k z hz => ?_⟩
    have off : Off D H4 (upd H4 D (.lst (ys ++ [y]))) := fun b o nb h => by rw [upd_ne nb]; exact h
    by_cases hk : k < ys.length
    · rw [List.getElem?_append_left hk] at hz
      exact mono k z H _ (fun b o nb h => off b o nb (s4 b o h)) (hR k z hz)
    · rw [List.getElem?_append_right (by omega)] at hz
      have hk2 : k - ys.length = 0 := by
        have h2 := (List.getElem?_eq_some_iff.mp hz).1
        rw [List.length_singleton] at h2
        omega
      rw [hk2] at hz
      cases hz
      have ek : k = i := by omega
      rw [ek]
      exact mono i y H4 _ off r4
  · rintro H ⟨ys, s, hD, hl, hR⟩
    exact hd H ys s hD hl hR
/-! ### ways that are told by whole numbers -/
theorem iteDT {p A B : Prop} [Decidable p] (hp : p) (h : A) : if decide p = true then A else B := by rw [decide_eq_true hp]; exact iteT h
theorem iteDF {p A B : Prop} [Decidable p] (hp : ¬ p) (h : B) : if decide p = true then A else B := by rw [decide_eq_false hp]; exact iteF h
theorem iteNT {p A B : Prop} [Decidable p] (hp : ¬ p) (h : A) : if (!decide p) = true then A else B := by rw [decide_eq_false hp]; exact iteT h
theorem iteNF {p A B : Prop} [Decidable p] (hp : p) (h : B) : if (!decide p) = true then A else B := by rw [decide_eq_true hp]; exact iteF h
theorem iteET {a b : Int} {A B : Prop} [Decidable (V.int a = V.int b)] (hp : a = b) (h : A) : if decide (V.int a = V.int b) = true then A else B := iteDT (congrArg V.int hp) h
theorem iteEF {a b : Int} {A B : Prop} [Decidable (V.int a = V.int b)] (hp : ¬ a = b) (h : B) : if decide (V.int a = V.int b) = true then A else B := iteDF (fun z => hp (V.int.inj z)) h
theorem iteENT {a b : Int} {A B : Prop} [Decidable (V.int a = V.int b)] (hp : ¬ a = b) (h : A) : if (!decide (V.int a = V.int b)) = true then A else B := iteNT (fun z => hp (V.int.inj z)) h
theorem iteENF {a b : Int} {A B : Prop} [Decidable (V.int a = V.int b)] (hp : a = b) (h : B) : if (!decide (V.int a = V.int b)) = true then A else B := iteNF (congrArg V.int hp) h
theorem iteNtt {A B : Prop} (h : B) : if (!true) = true then A else B := h
theorem iteNff {A B : Prop} (h : A) : if (!false) = true then A else B := h
/-- 1 or 0 of a comparison -/
theorem int_if {p : Prop} [Decidable p] : (if decide p = true then (1 : Int) else 0) = if p then 1 else 0 := by by_cases h : p <;> simp [h]
end Pre

namespace My
open PySem PySem.Spec PyProof.Rows L2
/-! ### own errors whose __init__ says super().__init__(value); self.value = value -/
namespace Sup
open PySem.W PySem.Calls
section
variable {prog : Program} {w : World} {A : Around} {E : Value → Shared → Prop} {h : Heap} {g : Array GenState} {d : Drawn} {t : Nat} {os : OsState}
variable {nm q : Str} {C N : Addr} {bs bm : List Value} {hdct : Bool} {sn : List Str} {sub : List Value} {ab : Bool} {col : Option Bool} {dd : Option Addr} {k0 k1 k2 k3 k5 : Option Value}
theorem call_bwV {u e t0 : Addr} {rest : List Value} {Q : Value → Shared → Prop}
    (hC : h.get? C = some (excClassObj nm q C N bs bm hdct sn sub ab col dd k0 k1 k2 k3 k5 "ValueError.__new__")) (he : h.get? e = some (HandSPX.excO C t0)) (hu : h.get? u = some (kxs_mw "ValueError.__init__" e)) (hrest : rest.length ≤ sizeLine)
    (hq : ∀ h' t1, (∀ b o, b ≠ e → h.get? b = some o → h'.get? b = some o) → h'.get? e = some (HandSPX.excO C t1) → Q .none ⟨h', g, d, t, os⟩) :
    wpAny (model prog w) A (call (.ref u) rest) Q E ⟨h, g, d, t, os⟩ := by
  refine wpAny_call (codeAny_of_tree ?_)
  show wpAny _ A.in1 (callAny (.ref u) ⟨rest, []⟩) _ _ _
  simp only [callAny]
  refine wpAny_bind (wpAny_load hu ?_)
  simp only [kxs_mw, show (Value.type "method-wrapper" == Value.type "method" || Value.type "method-wrapper" == Value.type "builtin_function_or_method" || Value.type "method-wrapper" == Value.type "method-wrapper") = true by decide, if_true]
  refine W.KFB.if_so (by decide) ?_
  refine wpAny_bind (ESX.check_bound F.excBase_ValueError hC he rfl ?_)
  refine wpAny_bind (wpAny_pure (wpAny_pure ?_))
  refine ⟨Code.quiet_builtin _ (by decide +kernel), codeAny_builtin F.excBase_ValueError.initEntry ?_⟩
  rw [Around.under_plainId F.excBase_ValueError.init.plain _]
  exact exc_init_tree (cls := .ref C) (t0 := t0) (dv := none) (c2 := .none) (c3 := .none) (b4 := .bool false) he hrest fun h' k e' _ => hq h' _ k e'
end
/-- the file of the program: what its code objects are asked for -/
class PF (P : Program) (file : Str) : Prop where
  file : ((P.main.file : Str) == file) = true
  top : (P.main.scope.names.lookup ("super" : Str)).isSome = false
/-- what the written part says of such a class C, named x, and its __init__ at fI -/
structure SupC (K : Frag) (file x : Str) (st : Stmt) (C fI : Addr) (fd : FuncData) : Prop where
  T : OexC K C
  ex : ∃ (oc : Value) (od : Option Addr) (dV kV doc pm : Value) (an : Option Addr) (c cc : Addr) (ct : Value) (osl : Array (Option Value)),
    fd = ksFn "__init__" (x ++ (".__init__" : Str)) (defArgs st) (defBody st) (defScope st) dV kV doc pm an (.ref c) ct cc ∧ K.lookup fI = some ⟨oc, od, .func fd, osl⟩ ∧ codeIn K (.ref c) (x ++ (".__init__" : Str)) = true ∧
    (∃ (ccl : Value) (cdd : Option Addr) (vs : Array Value) (ccs : Array (Option Value)) (tf : Tok), K.lookup c = some ⟨ccl, cdd, .fields vs, ccs⟩ ∧ vs[2]? = some (.str file tf)) ∧ (∃ (cl : Value) (cld : Option Addr) (csl : Array (Option Value)), K.lookup cc = some ⟨cl, cld, .cell (some (.ref C)), csl⟩)
  sup : ks_superIn K C C "__init__" = some (some (.builtin "ValueError.__init__"))
  subV : subIn K (.ref C) (.type "ValueError") = some true
  subC : mroIn K C (.ref C) = some true
  opq : nsIn K cStatics "thirdparty.any" = some none
  nov : findIn K (.ref C) "value" = some none
/-- the body's shape -/
def SupBody (st : Stmt) : Prop := ∃ p0 p1 p2 p3 p4 p5 p6 p7 p8 p9 : Pos,
  defBody st = [.Expr (.Call (.Attribute (.Call (.Name "super" p0) [] [] p1) "__init__" p2) [.Name "value" p3] [] p4) p5, .Assign [.Attribute (.Name "self" p6) "value" p7] (.Name "value" p8) p9] ∧
  ((defArgs st).posonlyargs ++ (defArgs st).args).head?.map (·.arg) = some ("self" : Str) ∧
  ∀ env : Env, ∃ pl : Sem Bool, eval (.Call (.Attribute (.Call (.Name "super" p0) [] [] p1) "__init__" p2) [.Name "value" p3] [] p4) env = (do
      let ov ← attributeBase (.Call (.Name "super" p0) [] [] p1) "__init__" env (eval (.Call (.Name "super" p0) [] [] p1) env)
      standAt p2.atName
      let (f, first) ← holding [ov] (getMethod ov "__init__" pl)
      callWith p4 f first (backTo p4 (starEach [.Name "value" p3] env)) [])
def sp_exc_init (C : Addr) : Sp := fun vs H Q _ => ∃ (a : Addr) (v : V), vs = [.ref a, v] ∧ H a = some (exo a C none) ∧ ∀ d, H d = none → d ≠ a → Q .non (upd (upd H d (exd d [("value", v)])) a (exo a C (some d)))
section
variable {P : Program} {w : World} {K : Frag} {mg : Str → Option Value} {base : Heap} {CX : CXT} {file x : Str} {st : Stmt} {C fI : Addr} {fd : FuncData}
theorem fn_sup [pf : PF P file] (S : NdefX.NScope ["self", "value", "__class__"] ["self", "value"] ["__class__"] (defScope st)) (hgs : (defScope st).names.lookup ("super" : Str) = some .globalImplicit) (hb0 : SupBody st) (F : SupC K file x st C fI fd) (nosup : mg ("super" : Str) = none) :
    FnOk P w K mg base CX 1 fI fd ["self", "value"] (sp_exc_init C) := by
  refine ⟨fun vs H Q E h => by obtain ⟨a, v, rfl, _⟩ := h; rfl, fun A outer s H args us vs Q E hr e0 hb rv hsp => ?_⟩
  obtain ⟨a, v, rfl, ha, q⟩ := hsp
  obtain ⟨oc, od, dV, kV, doc, pm, an, c, cc, ct, osl, rfl, lk, hcd, ⟨ccl, cdd, cvs, ccs, tf, lkc, hvs⟩, cl, cld, csl, lkcc⟩ := F.ex
  obtain ⟨p0, p1, p2, p3, p4, p5, p6, p7, p8, p9, hbody, hself, hev⟩ := hb0
  obtain ⟨pl, hpl⟩ := hev (NdefX.envF ⟨"__init__", x ++ (".__init__" : Str), defArgs st, defBody st, defScope st, [("__class__", cc)], c⟩ fI s.heap.objs.size)
  have hin : K.In s.heap := e0.mod.kin.keeps fun b o z => (e0.bs b o z).1
  have lim : s.heap.NoLimit := e0.mod.nolimit.keeps fun b o e => (e0.bs b o e).1
  let Fn : NdefX.NF := ⟨"__init__", x ++ (".__init__" : Str), defArgs st, defBody st, defScope st, [("__class__", cc)], c⟩
  refine codeAny_call_function hr.depth (hin _ _ lk) rfl S.co S.gen rfl (codeRec_of hin hcd) (hb _ _ _ _ ?_)
  refine wpAny_newFunctionEnv S.nocell (fun ⟨n, _⟩ hy => S.par n (List.of_mem_zip hy).1) (fun h₁ hns hsb => ⟨lim.fresh _ hsb, ?_⟩) S.kind
  show codeAny _ _ (.func (defBody st) (NdefX.envF Fn fI s.heap.objs.size)) _ _
  have kp : ∀ b o, s.heap.get? b = some o → h₁.get? b = some o := fun b o e => hsb.extBut b o (Nat.ne_of_lt (Heap.lt_size e)) (Heap.get?_push_of_some _ e)
  have hcc : ∀ y c', ([("__class__", cc)] : List (Str × Addr)).lookup y = some c' → y = ("__class__" : Str) ∧ c' = cc := fun y c' e => by
    by_cases h : y = ("__class__" : Str)
    · subst h
      cases e
      exact ⟨rfl, rfl⟩
    · rw [List.lookup_cons, show (y == ("__class__" : Str)) = false by simpa using h] at e
      cases e
  have cells : NdefX.CellsAt Fn.cl ["__class__"] [some (.ref C)] s.heap H := {
    len := rfl
    all := fun y c' e => by
      obtain ⟨_, rfl⟩ := hcc y c' e
      exact ⟨(e0.bs _ _ (e0.mod.kin _ _ lkcc)).2, _, _, hin _ _ lkcc, rfl⟩
    inj := fun y z c' e1 e2 => by rw [(hcc y c' e1).1, (hcc z c' e2).1]
    has := fun i y e => by
      cases i with
      | zero =>
        cases e
        refine ⟨cc, rfl, fun u hu => ?_⟩
        cases hu
        exact ⟨.ref C, rfl, _, hin _ _ lkcc, rfl⟩
      | succ i => simp at e }
  have I : Inv (NdefX.ncx CX P w K mg base ["self", "value", "__class__"] Fn fI A outer s H E) [] (NdefX.startF ["self", "value", "__class__"] [.ref a, v] [some (.ref C)]) H { s with heap := h₁, toks := s.toks + (["self", "value"].zip us).length } := NdefX.inv_startN S hr.hd e0 rfl rv cells hns kp
  obtain ⟨nm, q0, N, bs, bm, sn, sub, ab, col, dd, k0, k1, k2, k3, k5, hC, hbm⟩ := F.T.cls
  have hcl : clsIn K C = some { name := nm, bases := bs, mro := .ref C :: bm, ns := N, qualname := q0, hasDict := true, slotNames := sn, subclasses := sub, abstract := ab, collection := col, hasDel := false } := by unfold clsIn; rw [hC] <;> rfl
  refine ks_codeAny_funcAt ?_
  rw [hbody]
  obtain ⟨ar, hp, har⟩ : ∃ ar, ((defArgs st).posonlyargs ++ (defArgs st).args).head? = some ar ∧ ar.arg = ("self" : Str) := by
    cases e : ((defArgs st).posonlyargs ++ (defArgs st).args).head? with
    | none => rw [e] at hself; cases hself
    | some ar => rw [e] at hself; exact ⟨ar, rfl, Option.some.inj hself⟩
  have X1 : K.In h₁ := hin.keeps kp
  obtain ⟨ual, rfl⟩ : ∃ u1, us = [.ref a, u1] := by
    cases rv with
    | cons r1 r2 => cases r2 with
      | cons r3 r4 => cases r4; cases r1; exact ⟨_, rfl⟩
  refine ks_wpAt_execs_cons (ks_wpAt_Expr_any (ks_wpAt_MethodCall (pl := pl) ?_ hpl) I.quiet)
  refine ks_wpAt_super_base (env := NdefX.envF Fn fI s.heap.objs.size) hgs (S.frk _ (by simp)) (by decide) rfl (X1 _ _ lk) rfl hp rfl (X1 _ _ lkc) rfl hvs pf.file pf.top ?_
  obtain ⟨mb, hb1, hb2⟩ := I.mod.blt
  refine ks_loadName_global S.kind hgs (loadGlobal_builtin (env := NdefX.envF Fn fI s.heap.objs.size) (I.mod.glob.keeps I.bk) nosup (hb1.keeps I.bk) ((hb2 _ (by decide)).trans (show bootBuiltins "super" = some (.type "super") by decide +kernel)) ⟨rfl, ?_⟩)
  refine wpAny_loadName_free S.kind (S.frk _ (by simp)) rfl ⟨_, X1 _ _ lkcc, rfl⟩ ?_
  rw [har]
  refine wpAny_loadName_local S.kind (S.par _ (by simp)) hns rfl ?_
  obtain ⟨t1, he0⟩ := exo_at e0.hok ha
  have he1 := kp _ _ he0
  refine ks_wpAny_isType_cls (X1 _ _ hC) rfl ⟨rfl, ?_⟩
  refine ks_wpAny_call_super (X1 _ _ hC) rfl he1 rfl (fun c e => by cases e) (looks_mroIn X1 F.subC) (fun h2 hso k2 => ?_)
  have X2 : K.In h2 := X1.keeps k2
  have he2 := k2 _ _ he1
  have IA : InstAt h2 a (HandSPX.excO C t1) C none := ⟨he2, rfl, rfl, trivial⟩
  have hf := F.sup
  unfold ks_superIn at hf
  rw [hcl] at hf
  refine kxs_getMethod kxs_ValueError hso (looks_opaque X2 F.opq) (l₀ := .ref C :: bm) (fun A Q E s k q => wpAny_bind ((looks_clsIn X2 hcl) A _ E s k (wpAny_pure q))) rfl X2 hf (IA.type.andThen (looks_subIn X2 F.subV)) (ks_ne X2 IA hcl) (by decide) ?_
  have k3 : ∀ b o, h₁.get? b = some o → (h2.push (kxs_mw "ValueError.__init__" a)).get? b = some o := fun b o e => Heap.get?_push_of_some _ (k2 b o e)
  have I3 := I.kept (h' := h2.push (kxs_mw "ValueError.__init__" a)) (t' := s.toks + (["self", "value"].zip [Value.ref a, ual]).length + 1) k3
  refine kxs_callWith (i := "ValueError.__init__") (x := a) rfl ?_
  rw [show starEach [Expr.Name "value" p3] (NdefX.envF Fn fI s.heap.objs.size) = (false, eval (.Name "value" p3) (NdefX.envF Fn fI s.heap.objs.size)) :: starEach [] (NdefX.envF Fn fI s.heap.objs.size) from rfl]
  refine evalArgs_plain ?_
  refine spliced_cons ?_
  obtain ⟨m, hn, hl⟩ := I3.loc
  obtain ⟨u, ru, l⟩ := hl 1 "value" v rfl rfl (.inl (S.par _ (by simp)))
  have fin : wpAny (model P w) (A.deeper (NdefX.envF Fn fI s.heap.objs.size)) (eval (.Name "value" p3) (NdefX.envF Fn fI s.heap.objs.size)) (fun z s' => z = u ∧ s' = { s with heap := h2.push (kxs_mw "ValueError.__init__" a), toks := s.toks + (["self", "value"].zip [Value.ref a, ual]).length + 1 }) (fun e s' =>
      wpAny (model P w) (A.deeper (NdefX.envF Fn fI s.heap.objs.size)) (leaving (NdefX.envF Fn fI s.heap.objs.size) e)
        (fun x s'' => CR CX outer P w H s Q E (Except.error e) s'')
        (fun e' s'' => CR CX outer P w H s Q E (Except.error e') s'') s') { s with heap := h2.push (kxs_mw "ValueError.__init__" a), toks := s.toks + (["self", "value"].zip [Value.ref a, ual]).length + 1 } := by
    rcases l with ⟨hk, hm⟩ | ⟨hk, _⟩
    · exact wpAny_Name (wpAny_loadName_local S.kind hk hn hm ⟨rfl, rfl⟩) (by decide)
    · have hv : (defScope st).names.lookup ("value" : Str) = some .local := S.par _ (by simp)
      rcases hk with hk | hk <;> exact absurd (hv.symm.trans hk) (by intro z; cases z)
  refine wpAny_mono fin (fun z s' hz => ?_) fun _ _ z => z
  obtain ⟨rfl, rfl⟩ := hz
  refine spliced_nil ⟨Heap.get?_push_at rfl rfl, ?_⟩
  refine call_bwV (e := a) (t0 := t1) (X2.keeps (fun b o e => Heap.get?_push_of_some _ e) _ _ hC) (Heap.get?_push_of_some _ he2) (Heap.get?_push_at rfl rfl) (by show 1 ≤ sizeLine; decide) fun h' t2 k4 hx => ?_
  refine wpAt_of_wpAny ?_
  have J := I3.write (t' := s.toks + (["self", "value"].zip [Value.ref a, ual]).length + 1) (x := a) (e := a) (o := exo a C none) (by rw [ha]; exact True.intro) (.inl rfl) k4 ⟨_, hx⟩ (exo_ok hx)
  have eu : upd H a (exo a C none) = H := by
    funext b
    by_cases hb : b = a
    · rw [hb, upd_same, ha]
    · rw [upd_ne hb]
  rw [eu] at J
  have ht : PSs (NdefX.ncx CX P w K mg base ["self", "value", "__class__"] Fn fI A outer s H E) [.Assign [.Attribute (.Name "self" p6) "value" p7] (.Name "value" p8) p9] (tOst K "value" (tVar 0) (tVar 1)) :=
    pss_one (ps_ost (pe_var (i := 0) rfl (.inl (S.par _ (by simp)))) (pe_var (i := 1) rfl (.inl (S.par _ (by simp)))))
  refine wpAny_mono (ht.run [] _ _ H { nx := fun _ H' => Q .non H', rt := Q } J ⟨v, rfl, .ref a, rfl, a, C, rfl, F.T, F.nov, .inl ⟨ha, fun dx n ne => q dx n ne⟩⟩) (fun fl s' hs => ?_) fun e s' hs => hs
  have fin : ∀ {σ' : L2.St} {H' : Hp} {v : V} {u : Value}, Inv (NdefX.ncx CX P w K mg base ["self", "value", "__class__"] Fn fI A outer s H E) [] σ' H' s' → L2.RelV v u → Q v H' → CE outer P w H s Q u s' :=
    fun {σ' H' v u} J rv q => ⟨v, H', J.os, J.bare, J.base, J.hok, rv, q⟩
  cases fl with
  | ret u =>
    obtain ⟨v, σ', H', J, rv, q⟩ := hs
    exact fin J rv q
  | next =>
    obtain ⟨σ', H', J, q⟩ := hs
    exact fin (v := V.non) (u := Value.none) J rfl q
  | brk =>
    obtain ⟨_, _, _, q⟩ := hs
    exact False.elim q
  | cont =>
    obtain ⟨_, _, _, q⟩ := hs
    exact False.elim q
end
end Sup
end My

namespace My
open PySem PySem.Spec PyProof.Rows L2
/-! ### such an error raised; its value in an except suite; several clauses with a name -/
/-- what is left to be shown behind the making of such an error with the value v -/
theorem mk_sup {C : Addr} {v : V} {H1 : Hp} {Q : XK} (q : ∀ d, H1 d = none → Q (.ref C) (some d) (upd H1 d (.xd [("value", v)]))) : [v].length ≤ 1000 ∧ ∀ a, H1 a = none → Sup.sp_exc_init C (.ref a :: ([v] ++ [])) (upd H1 a (exo a C none))
    (fun w H2 => w = .non ∧ ∃ (d : Addr) (fs : List (Str × V)), H2 a = some (exo a C (some d)) ∧ H2 d = some (exd d fs) ∧ H1 d = none ∧ Q (.ref C) (some d) (upd (del H2 a) d (.xd fs))) (fun _ _ _ => False) := by
  refine ⟨by show 1 ≤ 1000; decide, fun a na => ⟨a, v, rfl, upd_same, fun d nd da => ⟨rfl, d, [("value", v)], upd_same, ?_, ?_, ?_⟩⟩⟩
  · rw [upd_ne da, upd_same]
  · rw [upd_ne da] at nd
    exact nd
  · have hn : H1 d = none := by rw [upd_ne da] at nd; exact nd
    have e : upd (del (upd (upd (upd H1 a (exo a C none)) d (exd d [("value", v)])) a (exo a C (some d))) a) d (.xd [("value", v)]) = upd H1 d (.xd [("value", v)]) := by
      funext b
      by_cases hb : b = d
      · rw [hb, upd_same, upd_same]
      · rw [upd_ne hb, upd_ne hb]
        by_cases hba : b = a
        · rw [hba, del_same, na]
        · rw [del_ne hba, upd_ne hba, upd_ne hb, upd_ne hba]
    rw [e]
    exact q d hn
/-- the reading of err.f, the class of err told there -/
def tXfA (K : PySem.W.Frag) (a : Addr) (cls : Value) (d : Option Addr) (f : Str) (te : TE) : TE := fun σ H Q => te σ H fun x H1 => x = .ref a ∧ ∃ C : Addr, cls = .ref C ∧ XfC K C ∧ PySem.W.findIn K (.ref C) f = some none ∧ ∃ (dd : Addr) (fs : List (Str × V)) (v : V), d = some dd ∧ H1 dd = some (.xd fs) ∧ fs.lookup f = some v ∧ Q v H1
theorem pe_xfA {X : Cx} {a : Addr} {oe : Obj} {cls : Value} {d : Option Addr} {pn : List (Addr × Obj)} {e : Expr} {te : TE} {pos : Pos} {n : Str}
    (hz : Zc cls d oe) (hf : ∃ vs, oe.data = .fields vs) (he : PE (X.suite a ((a, oe) :: pn)) e te) (hb : attributeBase e n X.env (eval e X.env) = eval e X.env := by rfl) :
    PE (X.suite a ((a, oe) :: pn)) (.Attribute e n pos) (tXfA X.K a cls d n te) := by
  refine ⟨fun pins s σ H Q I h => ?_⟩
  refine attr_of hb (thn (he.run pins s σ H _ I h) fun u s1 hh => ?_)
  obtain ⟨x, H1, I1, rx, ex, C, ec, T, hno, dd, fs, v, ed, ea, l, q⟩ := hh
  subst ex
  obtain rfl : u = Value.ref a := rx
  subst ec
  subst ed
  obtain ⟨ha, _⟩ := I1.pin (a, oe) (List.mem_append_left _ List.mem_cons_self)
  obtain ⟨vs, hd⟩ := hf
  have hx : ObjOk X.prog X.w H1 s1.heap dd (.xd fs) := I1.hok dd _ ea
  obtain ⟨mA, hns, hr⟩ := hx
  obtain ⟨od, ho, hl⟩ := lookIn_ns hns
  obtain ⟨u, hu, ru⟩ := RelO.some_of (v := v) (o := mA n) (by rw [← l]; exact hr n)
  have J : PySem.W.InstAt s1.heap a oe C (some od) := ⟨ha, hz.1, by unfold PySem.W.notCls; rw [hd] <;> rfl, by rw [hz.2]; exact ho⟩
  exact HandSPX.exc_get I1.kIn J T.ga T.gg T.exC (PySem.W.findObj_own T.hdC hno rfl (by rw [hl, hu])) (handed_of ru) ⟨v, H1, I1.tok _, ru, q⟩
/-- what the clauses 'except x as n' wish of an exception of the body, one after the other; slot i is n's -/
def wManyAs (K : PySem.W.Frag) (i : Nat) (Wout : WX) (D : Ends) : List (Value × (Addr → Value → Option Addr → TS)) → WX
  | [] => Wout
  | (c, ts) :: r => fun cls d σ H => ∃ b, PySem.W.exmOne K cls c = some b ∧ (b = true → ∀ a, H a = none → ts a cls d { nx := fun σ' H' => D.nx (σ'.set i none) H', rt := D.rt, bk := fun σ' H' => D.bk (σ'.set i none) H', ct := fun σ' H' => D.ct (σ'.set i none) H' } (σ.set i (some (.ref a))) H) ∧
    (b = false → wManyAs K i Wout D r cls d σ H)
inductive HdsAs (X : Cx) (n : Str) : List ExceptHandler → List (Value × (Addr → Value → Option Addr → TS)) → Prop
  | nil : HdsAs X n [] []
  | cons {x : Str} {c : Value} {ts : Addr → Value → Option Addr → TS} {b₀ : Stmt} {suite : List Stmt} {np pos' : Pos} {hds : List ExceptHandler} {l : List (Value × (Addr → Value → Option Addr → TS))} (hc : Names X x c)
      (hsu : ∀ (a : Addr) (oe : Obj) (cls : Value) (d : Option Addr) (pn : List (Addr × Obj)), Zc cls d oe → (∃ vs, oe.data = .fields vs) → PSs (X.suite a ((a, oe) :: pn)) (b₀ :: suite) (ts a cls d)) (r : HdsAs X n hds l) :
      HdsAs X n (.ExceptHandler (some (.Name x np)) (some n) (b₀ :: suite) pos' :: hds) ((c, ts) :: l)
section
variable {X : Cx} {n : Str} {i : Nat} {body : List Stmt} {h₀ : ExceptHandler} {hds : List ExceptHandler} {l : List (Value × (Addr → Value → Option Addr → TS))} {pos : Pos} {tb : WX → TS} {Wout : WX}
theorem ps_try_manyAs (hs : X.stack = X.env :: X.outer) (hf : X.env.frame = some X.env.locals) (hN : X.N.Nodup) (hi : X.N[i]? = some n) (hln : X.env.kindOf n = some .local) (tk : Takes X Wout)
    (hb : ∀ (W : WX) (pn : List (Addr × Obj)) (xe : Value → Shared → Prop), Takes (X.tr pn xe) W → PassesOwn (model X.prog X.w) X.A X.env xe → PSs (X.tr pn xe) body (tb W))
    (hh : HdsAs X n (h₀ :: hds) l) : PS X (.Try body (h₀ :: hds) [] [] pos) (fun D σ H => tb (wManyAs X.K i Wout D l) D σ H) := by
  refine ⟨fun pins s σ H D I h => ?_⟩
  have ok := I.ok
  have hfr : X.A.frames = some (X.env :: X.outer) := by rw [ok.frames, hs]
  have hloc : Loc X.env.scope n := .inl hln
  refine wpAny_Try_except ?_
  refine wpAny_mono ((hb (wManyAs X.K i Wout D l) (X.pn ++ pins) (fun e s₁ => wpAny (model X.prog X.w) X.A (noteFrame e X.env) (fun _ s₂ => wpAny (model X.prog X.w) X.A (setFlight e none) (fun _ s₃ =>
    wpAny (model X.prog X.w) X.A (handleBy e X.env (h₀ :: hds)) (SP X pins D) X.xe s₃) X.xe s₂) X.xe s₁) (fun u s' xx => ?_) PassesOwn.looking).run [] s σ H D (I.toTry _) h) (fun f s1 hsp => ?_) (fun e s1 he => he)
  · -- the catch
    obtain ⟨a, B, sI, pins', σ', H', cls, d, rfl, J', nb, up, sky, na, os, ag, w⟩ := xx
    have J : Inv X pins σ' H' sI := J'.ofTry ok
    have sky' : Sky B (X.env :: X.outer) a (Zc cls d) X.env.locals s'.heap := by rw [← hs]; exact sky
    show wpAny (model X.prog X.w) X.A (noteFrame (.ref a) X.env) _ _ _
    refine Sky.land Zc.steady hfr hf sky' fun h3 fl3 up3 => ?_
    have J3 : Inv X pins σ' H' { s' with heap := h3 } := J.landed nb fl3.1 (up.trans up3) os ag
    obtain ⟨oe3, vs3, he3, hz3, hd3⟩ := fl3.there
    have notFr : ∀ {h : Heap} {o : Obj} {vs : Array Value}, h.FunFrames B (X.env :: X.outer) → h.get? a = some o → o.data = .fields vs → a ∉ frs (X.env :: X.outer) := fun {h o vs} ff e dd hm => by
      obtain ⟨_, o', e', hnf⟩ := ff.mem hm
      rw [e] at e'; cases e'
      exact hnf _ dd
    have nfr := notFr fl3.2.2.1 he3 hd3
    have nL : a ≠ X.env.locals := fun z => nfr (List.mem_filterMap.mpr ⟨X.env, List.mem_cons_self, by rw [hf, z]⟩)
    have nF : a ∉ X.fs := fun hm => by
      obtain ⟨e, he, q⟩ := List.mem_filterMap.mp hm
      exact nfr (List.mem_filterMap.mpr ⟨e, List.mem_cons_of_mem _ he, q⟩)
    have S3 := J3.suite he3 hd3 na nL nF
    have go : ∀ {hds' : List ExceptHandler} {l' : List (Value × (Addr → Value → Option Addr → TS))}, HdsAs X n hds' l' → wManyAs X.K i Wout D l' cls d σ' H' →
        wpAny (model X.prog X.w) X.A (handleBy (.ref a) X.env hds') (SP X pins D) X.xe { s' with heap := h3 } := by
      intro hds' l' hk
      induction hk with
      | nil =>
        intro w
        refine wpAny_handleBy_nil ?_
        obtain ⟨k1, k2, k3, oe, vs, T, oT, ts', he, hz, hd, h1, hr⟩ := id fl3
        unfold PySem.passOn
        refine wpAny_bind (wpAny_field he hd h1 ?_)
        rw [if_neg (show ¬ ((Value.ref T == Value.none) = true) from by simp)]
        have fin : wpAny (model X.prog X.w) X.A (setFlight (.ref a) X.env.frame) (fun _ s4 => wpAny (model X.prog X.w) X.A (throw (.ref a) : Sem Flow) (SP X pins D) X.xe s4) X.xe { s' with heap := h3 } := by
          rw [hf]
          refine HandSPX.setFlight_upZ fl3 fun h4 hh4 up4 => wpAny_throw (tk _ _ ?_)
          exact ⟨a, B, sI, pins, σ', H', cls, d, rfl, J, nb, (up.trans up3).trans up4, .inr (.inr (by rw [hs]; exact hh4)), na, os, ag, w⟩
        first
          | exact wpAny_bind (wpAny_pure (wpAny_bind fin))
          | exact wpAny_bind fin
      | @cons x c ts b₀ suite np pos' hds2 l2 hc hsu r ih =>
        intro w
        obtain ⟨b, hb1, hyes, hno⟩ := w
        refine wpAny_handleBy_cons (codeAny_handlers_test ?_) (by intro q; cases q)
        have LT : PySem.W.Looks (model X.prog X.w) h3 (typeOf (.ref a)) cls := fun A Q E s k q => wpAny_typeOf_ref (k _ _ he3) (by rw [hz3.1]; exact q)
        have LM := PySem.W.exm_one (M := model X.prog X.w) (J3.kIn) LT hb1
        have test : ∀ {Q : Value → Shared → Prop} {E : Value → Shared → Prop}, Q c { s' with heap := h3 } → wpAny (model X.prog X.w) (X.A.mark (some (.ref a))) (eval (.Name x np) X.env) Q E { s' with heap := h3 } := fun {Q E} q => by
          obtain ⟨hg, hdbg, hm | ⟨hm, hv, hnn⟩⟩ := hc
          · exact ld_glob (X := X.suite a ((a, oe3) :: (X.pn ++ pins))) S3 hg hm q hdbg
          · exact ld_blt (X := X.suite a ((a, oe3) :: (X.pn ++ pins))) S3 hg hm hv q hnn hdbg
        refine test (LM.here ?_)
        cases b with
        | true =>
          refine codeAny_handlers_suite_as ?_
          refine HandSPX.lands_againZ fl3 fun h4 fl4 up4 => ?_
          have J4 : Inv X pins σ' H' { s' with heap := h4 } := J.landed nb fl4.1 ((up.trans up3).trans up4) os ag
          obtain ⟨oe4, vs4, he4, hz4, hd4⟩ := fl4.there
          have S4 := J4.suite he4 hd4 na nL nF
          refine store_ok (X := X.suite a ((a, oe4) :: (X.pn ++ pins))) (v := .ref a) S4 hN hi hloc rfl (fun s5 S5 => ?_) (.inr hln)
          refine wpAny_mono ((hsu a oe4 cls d (X.pn ++ pins) hz4 ⟨_, hd4⟩).run [] s5 _ H' _ S5 (hyes rfl a na)) (fun f s6 hsp => ?_) (fun _ _ z => False.elim z)
          have end_ : ∀ {σ6 : L2.St} {H6 : Hp} {Q : Shared → Prop}, Inv (X.suite a ((a, oe4) :: (X.pn ++ pins))) [] σ6 H6 s6 → (∀ s7, Inv X pins (σ6.set i none) H6 s7 → Q s7) →
              wpAny (model X.prog X.w) X.A (do bindName X.env n .none; unbindBehindTheSuite X.env n pos') (fun _ s7 => Q s7) X.xe s6 := fun {σ6 H6 Q} S6 hq => gone_ok (S6.unsuite ok) hN hi hln hq
          cases f with
          | next =>
            obtain ⟨σ6, H6, S6, q6⟩ := hsp
            exact end_ S6 fun s7 J7 => ⟨_, _, J7, q6⟩
          | brk =>
            obtain ⟨σ6, H6, S6, q6⟩ := hsp
            exact end_ S6 fun s7 J7 => ⟨_, _, J7, q6⟩
          | cont =>
            obtain ⟨σ6, H6, S6, q6⟩ := hsp
            exact end_ S6 fun s7 J7 => ⟨_, _, J7, q6⟩
          | ret u =>
            obtain ⟨v6, σ6, H6, S6, r6, q6⟩ := hsp
            exact end_ S6 fun s7 J7 => ⟨_, _, _, J7, r6, q6⟩
        | false =>
          show wpAny _ X.A (handleBy (.ref a) X.env hds2) _ _ _
          exact ih (hno rfl)
    exact go hh w
  · cases f with
    | next =>
      obtain ⟨σ', H', J', q⟩ := hsp
      exact wpAny_execs_nil ⟨σ', H', J'.ofTry ok, q⟩
    | brk =>
      obtain ⟨σ', H', J', q⟩ := hsp
      exact ⟨σ', H', J'.ofTry ok, q⟩
    | cont =>
      obtain ⟨σ', H', J', q⟩ := hsp
      exact ⟨σ', H', J'.ofTry ok, q⟩
    | ret u =>
      obtain ⟨v, σ', H', J', r, q⟩ := hsp
      exact ⟨v, σ', H', J'.ofTry ok, r, q⟩
end
end My

namespace My
open PySem PySem.Spec PyProof.Rows L2
/-! ### own errors as they stand behind the top: what is asked of the written part -/
abbrev ErW : Type := Option (Str × Str × Arguments × FuncBody × Scope × Addr × Addr)
def erI (K : PySem.W.Frag) (x : Str) : Addr := match PySem.W.findIn K (.ref (He.ga K x)) "__init__" with
  | some (some (.ref a)) => a
  | _ => 0
def erW (K : PySem.W.Frag) (x : Str) : ErW := match K.lookup (erI K x) with
  | some ⟨_, _, .func fd, _⟩ => some (fd.name, fd.qualname, fd.params, fd.body, fd.scope, fd.globals, fd.builtins)
  | _ => none
/-- an own error class over ValueError -/
def oexB (K : PySem.W.Frag) (C : Addr) : Bool := match K.lookup C with
  | some ⟨.type "type", _, .cls cd, sl⟩ => (match cd.mro, sl.toList with
    | .ref C' :: bm, [_, _, _, _, some (.builtin n), _] => C' == C && (n == ("ValueError.__new__" : String) && (!cd.hasDel && (cd.hasDict && PySem.HandSPX.refsVE bm)))
    | _, _ => false)
  | _ => false
theorem oexB_ok {K : PySem.W.Frag} {C : Addr} (q : oexB K C = true) : ∃ nm qn N bs bm sn sub ab col dd k0 k1 k2 k3 k5, K.lookup C = some (excClassObj nm qn C N bs bm true sn sub ab col dd k0 k1 k2 k3 k5 "ValueError.__new__") ∧ PySem.HandSPX.refsVE bm = true := by
  unfold oexB at q
  split at q
  · rename_i dd cd sl ho
    split at q
    · rename_i C' bm k0 k1 k2 k3 n k5 hm hs
      simp only [Bool.and_eq_true, beq_iff_eq, Bool.not_eq_true'] at q
      obtain ⟨rfl, rfl, hdel, hdict, ht⟩ := q
      obtain ⟨nm, bs, mro, ns, qn, hd, sn, sub, ab, col, del⟩ := cd
      dsimp only at hm hdel hdict
      subst hm hdel hdict
      have hsl : sl = #[k0, k1, k2, k3, some (.builtin "ValueError.__new__"), k5] := by
        obtain ⟨l⟩ := sl
        simp only at hs
        rw [hs]
      subst hsl
      exact ⟨nm, qn, ns, bs, bm, sn, sub, ab, col, dd, k0, k1, k2, k3, k5, ho, ht⟩
    · cases q
  · cases q
/-- its __init__: one cell, of the class; code of the file; one default, None -/
def iniB (K : PySem.W.Frag) (file x : Str) : Bool := match K.lookup (erI K x) with
  | some ⟨_, _, .func fd, _⟩ => (match fd.closure with
    | [(n, cc)] => decide (n = ("__class__" : Str)) && ((match K.lookup cc with
      | some ⟨_, _, .cell (some (.ref C')), _⟩ => C' == He.ga K x
      | _ => false) && ((match fd.code with
        | .ref c => (match K.lookup c with
          | some ⟨_, _, .fields vs, _⟩ => (match (vs[2]? : Option Value) with
            | some (Value.str f _) => decide (f = file)
            | _ => false)
          | _ => false)
        | _ => false) && (PySem.W.codeIn K fd.code (x ++ (".__init__" : Str)) && (He.dflB K fd.defaults [.non] && He.kwdB K fd.kwdefaults []))))
    | _ => false)
  | _ => false
def errB (K : PySem.W.Frag) (file x : Str) : Bool :=
  oexB K (He.ga K x) && (iniB K file x && (xfB K (He.ga K x) && (decide (PySem.W.findIn K (.ref (He.ga K x)) "__setattr__" = some (some (.builtin "object.__setattr__"))) && (decide (PySem.W.subIn K (.ref (He.ga K x)) (.type "BaseException") = some true) && (decide (PySem.W.typeIn K (.ref (He.ga K x)) = some (.type "type")) && (PySem.W.keepIn K (.ref (He.ga K x)) &&
  (decide (PySem.W.ks_superIn K (He.ga K x) (He.ga K x) "__init__" = some (some (.builtin "ValueError.__init__"))) && (decide (PySem.W.subIn K (.ref (He.ga K x)) (.type "ValueError") = some true) && (decide (PySem.W.mroIn K (He.ga K x) (.ref (He.ga K x)) = some true) && (decide (PySem.W.nsIn K cStatics "thirdparty.any" = some none) && (decide (PySem.W.findIn K (.ref (He.ga K x)) "value" = some none) &&
  (decide (PySem.W.findIn K (.ref (He.ga K x)) "__init__" = some (some (.ref (erI K x)))) && decide (PySem.W.typeIn K (.ref (erI K x)) = some (.type "function"))))))))))))))
structure ErrC (K : PySem.W.Frag) (file x : Str) (st : Stmt) (C fI : Addr) (fd : FuncData) : Prop where
  sup : Sup.SupC K file x st C fI fd
  ini : PySem.W.findIn K (.ref C) "__init__" = some (some (.ref fI))
  ity : PySem.W.typeIn K (.ref fI) = some (.type "function")
  bnd : Binds K fd ["self", "value"] []
  xf : XfC K C
theorem err_ok {K : PySem.W.Frag} {file x : Str} {st : Stmt} (h : errB K file x = true) (e : erW K x = some (("__init__" : Str), x ++ (".__init__" : Str), defArgs st, FuncBody.stmts (defBody st), defScope st, mainGlobals, builtinsNs))
    (hb : ∀ (T cc : Addr) (kV doc pm : Value) (an : Option Addr) (cdv ct : Value) (us its : List Value), us.length = 2 → its.length = 1 →
      ∃ k, bindArgs (PySem.W.ksFn "__init__" (x ++ (".__init__" : Str)) (defArgs st) (defBody st) (defScope st) (.ref T) kV doc pm an cdv ct cc) ⟨us, []⟩ = seqItems? (.ref T) >>= k ∧ k (some its.toArray) = pure ((["self", "value"] : List Str).zip us)) :
    ∃ fd, ErrC K file x st (He.ga K x) (erI K x) fd := by
  unfold errB at h
  obtain ⟨h1, h⟩ := He.ba h
  obtain ⟨h2, h⟩ := He.ba h
  obtain ⟨h3, h⟩ := He.ba h
  obtain ⟨h4, h⟩ := He.ba h
  obtain ⟨h5, h⟩ := He.ba h
  obtain ⟨h6, h⟩ := He.ba h
  obtain ⟨h7, h⟩ := He.ba h
  obtain ⟨h8, h⟩ := He.ba h
  obtain ⟨h9, h⟩ := He.ba h
  obtain ⟨h10, h⟩ := He.ba h
  obtain ⟨h11, h⟩ := He.ba h
  obtain ⟨h12, h⟩ := He.ba h
  obtain ⟨h13, h14⟩ := He.ba h
  unfold iniB at h2
  unfold erW at e
  cases q : K.lookup (erI K x) with
  | none => rw [q] at e; cases e
  | some o =>
    obtain ⟨oc, od, dt, osl⟩ := o
    rw [q] at e h2
    cases dt with
    | func fd =>
      obtain ⟨n1, n2, n3, n4, n5, n6, n7, n8, n9, n10, n11, n12, n13, n14, n15⟩ := fd
      have e2 : (some (n1, n2, n3, n4, n5, n6, n15) : ErW) = some (("__init__" : Str), x ++ (".__init__" : Str), defArgs st, FuncBody.stmts (defBody st), defScope st, mainGlobals, builtinsNs) := e
      simp only [Option.some.injEq, Prod.mk.injEq] at e2
      obtain ⟨r1, r2, r3, r4, r5, r6, r7⟩ := e2
      subst r1 r2 r3 r4 r5 r6 r7
      dsimp only at h2
      split at h2
      · rename_i n cc
        obtain ⟨k1, h2⟩ := He.ba h2
        obtain ⟨k2, h2⟩ := He.ba h2
        obtain ⟨k3, h2⟩ := He.ba h2
        obtain ⟨k4, h2⟩ := He.ba h2
        obtain ⟨k5, k6⟩ := He.ba h2
        obtain rfl := of_decide_eq_true k1
        split at k2
        · rename_i cl cld C' csl lcc
          obtain rfl := beq_iff_eq.mp k2
          split at k3
          · rename_i c0
            split at k3
            · rename_i ccl cdd vs ccs lc
              split at k3
              · rename_i f tf hvs
                obtain rfl := of_decide_eq_true k3
                have D := He.dflB_ok k5
                refine ⟨_, ⟨⟨⟨oexB_ok h1, of_decide_eq_true h4, of_decide_eq_true h5, of_decide_eq_true h6, h7⟩, ⟨oc, od, n8, n9, n10, n11, n12, _, cc, n14, osl, rfl, q, k4, ⟨ccl, cdd, vs, ccs, tf, lc, hvs⟩, cl, cld, csl, lcc⟩,
                  of_decide_eq_true h8, of_decide_eq_true h9, of_decide_eq_true h10, of_decide_eq_true h11, of_decide_eq_true h12⟩, of_decide_eq_true h13, of_decide_eq_true h14, ?_, xfB_ok h3⟩⟩
                rcases D with ⟨z, _⟩ | ⟨_, T, o, its, m, rfl, lT, oT, rT⟩
                · cases z
                · intro s us X hlen
                  rw [List.append_nil] at hlen ⊢
                  obtain ⟨k, e1, e2⟩ := hb T cc n9 n10 n11 n12 _ n14 us its hlen rT.length.symm
                  refine BindsTo.of_looks fun M => ?_
                  refine Eq.mpr (congrArg (fun z => PySem.W.Looks M s.heap z _) e1) ?_
                  exact looks_items X lT oT (.of_pure e2)
              · cases k3
            · cases k3
          · cases k3
        · cases k2
      · cases h2
    | _ => cases e
end My

namespace My
open PySem PySem.Spec PyProof.Rows PySem.W L2 Pre
/-! ### sorted, of rows of whole numbers -/
def rowDt (r : List Int) : PyData := .list (r.map PyData.int)
def rSortedR (K : PySem.W.Frag) : List V → Hp → VK → Prop := fun vs H Q => ∃ (a : Addr) (ps : List (V × List Int)), vs = [V.ref a] ∧ SqL K H a (ps.map Prod.fst) ∧ (∀ q ∈ ps, Dp K H q.1 (rowDt q.2)) ∧ ∀ (qs : List (V × List Int)) (p : Addr), qs.Perm ps → qs.Pairwise (fun x y => x.2 ≤ y.2) → H p = none → Q (.ref p) (upd H p (.lst (qs.map Prod.fst)))
theorem row_depth (r : List Int) : (rowDt r).depth ≤ 2 := by
  show (PyData.list (r.map .int)).depth ≤ 2
  rw [PyData.depth, Pre.depth_ints]
  omega
theorem rows_each {X : Cx} {pins : List (Addr × Obj)} {σ : L2.St} {H : Hp} {s : Shared} (I : Inv X pins σ H s) : ∀ {ps : List (V × List Int)} {us : List Value}, Vals (ps.map Prod.fst) us → (∀ q ∈ ps, Dp X.K H q.1 (rowDt q.2)) →
    EachIs (fun u q => RelV q.1 u) us ps ∧ EachIs (fun u q => ∃ as, Reads s.heap u (rowDt (Prod.snd q)) as) us ps
  | [], _, r, _ => by
    cases r
    exact ⟨.nil, .nil⟩
  | q :: ps, _, r, h => by
    rw [List.map_cons] at r
    cases r with
    | cons r1 r2 =>
      have ih := rows_each I r2 fun z hz => h z (List.mem_cons_of_mem _ hz)
      exact ⟨.cons r1 ih.1, .cons (Dp.reads I _ _ _ (h q List.mem_cons_self) r1) ih.2⟩
theorem each_vals : ∀ {us : List Value} {ps : List (V × List Int)}, EachIs (fun u q => RelV q.1 u) us ps → Vals (ps.map Prod.fst) us
  | _, _, .nil => .nil
  | _, _, .cons h t => by rw [List.map_cons]; exact .cons h (each_vals t)
theorem k_sortedR {X : Cx} (K : PySem.W.Frag) (h : X.K = K) (hu : X.A.units + 65 < cLine) : CallR X (.builtin "sorted") (rSortedR K) := by
  subst h
  intro pins s σ H vs us Q I r h
  obtain ⟨a, ps, rfl, hs, hp, q⟩ := h
  obtain ⟨its, rv, hl, hz⟩ := I.list hs
  rw [Vals.ref1 r]
  obtain ⟨e1, e2⟩ := rows_each I rv hp
  refine sorted_data (enc := fun q : V × List Int => rowDt q.2) hl.isList e1 e2 (AllAlike.of fun x y => by simp [rowDt, alike, W.alike_ints]) (Sortable.others fun x => ⟨by simp [rowDt], by simp [rowDt]⟩) (by rw [List.length_map] at hz; exact hz) (fun b _ => by have := row_depth b.2; show _ + _ + (rowDt b.2).depth < _; omega) fun out h1 h2 => ?_
  have le : (dataLe false fun q : V × List Int => rowDt q.2) = fun p q => decide (p.2 ≤ q.2) := dataLe_rows (fun q : V × List Int => q.2)
  rw [le] at h2
  have hperm := List.mergeSort_perm ps fun p q : V × List Int => decide (p.2 ≤ q.2)
  have hpw := List.pairwise_mergeSort (le := fun p q : V × List Int => decide (p.2 ≤ q.2)) (fun a b c h1 h2 => decide_eq_true (List.le_trans (of_decide_eq_true h1) (of_decide_eq_true h2))) (fun a b => by
    rw [Bool.or_eq_true, decide_eq_true_eq, decide_eq_true_eq]
    exact List.le_total _ _) ps
  obtain ⟨ep, at_⟩ := sortedAll_at s.heap its out.toArray
  refine ⟨.ref _, upd H (s.heap.objs.size + 1) (.lst ((ps.mergeSort fun p q : V × List Int => decide (p.2 ≤ q.2)).map Prod.fst)), I.laid (t' := s.toks) (fun _ _ => sortedAll_old) (Nat.le_succ _) ⟨?_, out.toArray.toList, ep, by simpa using each_vals h2, at_⟩, rfl, q _ _ hperm (hpw.imp fun h => of_decide_eq_true h) (I.hok.fresh (Nat.le_succ _))⟩
  rw [List.length_map, hperm.length_eq]
  rw [List.length_map] at hz
  exact hz
end My

namespace My
open PySem PySem.Spec PyProof.Rows L2
/-! ### the truth of a value, within comprehensions -/
def tTru (K : PySem.W.Frag) (ta : TE) : TT := fun σ H Q => ta σ H fun x H' => ∃ k, TruV K x H' k ∧ Q k H'
theorem k_truth {X : Cx} (K : PySem.W.Frag) (h : X.K = K) {a : Expr} {ta : TE} (ha : PE X a ta) (he : ∀ whole, isTrue a X.env whole = (do let v ← whole; standAt a.pos; holding [v] (truthy v))) : PT X a (tTru K ta) := by
  subst h
  exact pt_truth ha he
end My

namespace My
open PySem PySem.Spec PyProof.Rows PySem.W L2
/-! ### xs[-2::-1] -/
theorem rev2_bounds (n : Nat) (h : 0 < n) : sliceBounds (some (-2)) none (some (-1)) n = (((n - 1 : Nat) : Int) - 1, -1, -1) := by
  simp [sliceBounds]
  omega
theorem rev2_pick (items : Array Value) : slicePick items (some (-2)) none (some (-1)) = items.toList.dropLast.reverse.toArray := by
  by_cases h : 0 < items.size
  · unfold slicePick
    rw [rev2_bounds _ h]
    show ((sliceRange (((items.size - 1 : Nat) : Int) - 1) (-1) (-1)).filterMap (items[·]?)).toArray = _
    rw [krv_sliceRange, krv_range, List.filterMap_reverse]
    congr 1
    congr 1
    have hr := pick_run items 0 (items.size - 1)
    have e : (List.range (items.size - 1)).map (0 + ·) = List.range (items.size - 1) := by
      rw [show ((0 + ·) : Nat → Nat) = id from funext fun k => Nat.zero_add k, List.map_id]
    rw [e, List.drop_zero] at hr
    rw [hr, List.dropLast_eq_take, Array.length_toList]
  · have e : items = #[] := Array.eq_empty_of_size_eq_zero (by omega)
    subst e
    rfl
def tRev2 (K : PySem.W.Frag) (te : TE) : TE := fun σ H Q => te σ H fun x H1 => ∃ a xs, x = .ref a ∧ SqL K H1 a xs ∧ ∀ p, H1 p = none → Q (.ref p) (upd H1 p (.lst xs.dropLast.reverse))
theorem vals_dropLast : ∀ {xs : List V} {us : List Value}, Vals xs us → Vals xs.dropLast us.dropLast
  | _, _, .nil => .nil
  | _, _, .cons h .nil => .nil
  | _, _, .cons h (.cons h2 t) => .cons h (vals_dropLast (.cons h2 t))
section
variable {X : Cx}
theorem pe_rev2L {e : Expr} {te : TE} {k k2 : Nat} {p1 p2 p3 p4 p5 pos : Pos} (he : PE X e te) : PE X (.Subscript e (.Slice (some (.UnaryOp .USub (.Constant (.int 2) k2 p4) p5)) none (some (.UnaryOp .USub (.Constant (.int 1) k p1) p2)) p3) pos) (tRev2 X.K te) := by
  refine ⟨fun pins s σ H Q I h => ?_⟩
  refine Subscript_ (thn (he.run pins s σ H _ I h) fun v s1 ⟨x, H1, I1, r1, q1⟩ => ?_)
  obtain ⟨a, xs, ex, hx, q⟩ := q1
  subst ex
  cases r1
  have hst : PO X (some (.UnaryOp .USub (.Constant (.int 1) k p1) p2)) (tPart (tUn (rU fun i => .int (-i)) (tC (.int 1)))) := po_some (pe_un un_neg pe_int)
  have hlo : PO X (some (.UnaryOp .USub (.Constant (.int 2) k2 p4) p5)) (tPart (tUn (rU fun i => .int (-i)) (tC (.int 2)))) := po_some (pe_un un_neg pe_int)
  refine wpAny_Slice (thn (hlo.run pins s1 σ H1 (fun o H2 => o = some (-2) ∧ H2 = H1) I1 ⟨2, rfl, -2, rfl, rfl, rfl⟩) fun vl s2 ⟨l, H2, I2, pl, el, e2⟩ => ?_)
  subst el e2
  refine thn (po_none.run pins s2 σ H2 (fun o H3 => o = none ∧ H3 = H2) I2 ⟨rfl, rfl⟩) fun vu s3 ⟨u, H3, I3, pu, eu, e3⟩ => ?_
  subst eu e3
  refine thn (hst.run pins s3 σ H3 (fun o H4 => o = some (-1) ∧ H4 = H3) I3 ⟨1, rfl, -1, rfl, rfl, rfl⟩) fun vs s4 ⟨o, H4, I4, ps, eo, e4⟩ => ?_
  subst eo e4
  have I5 : Inv X pins σ H4 { s4 with heap := s4.heap.push { cls := .type "slice", data := .fields #[vl, vu, vs] } } := I4.kept (t' := s4.toks) fun b ob q => Heap.get?_push_of_some _ q
  obtain ⟨its, r, ht, hz⟩ := I5.list hx
  have hlen := r.length
  refine tail_any (ops := [.ref a, .ref s4.heap.objs.size]) ht.isList.typeIs (PySem.slot_list_getitem.lookup) ?_ (by with_unfolding_all rfl)
  refine wpAny_getItem_list_slice ht.isList (Heap.IsSliceOf.new _ vl vu vs) pl pu ps (by decide) ?_ (by rw [List.size_toArray]; omega)
  rw [rev2_pick]
  refine ⟨.ref _, _, I5.laid (t' := s4.toks) (o := .lst xs.dropLast.reverse) (fun b ob q => Heap.get?_push_of_some _ q) (Nat.le_refl _) ?_, rfl, q _ (I5.hok.fresh (Nat.le_refl _))⟩
  exact ⟨by rw [List.length_reverse, List.length_dropLast]; omega, _, 0, (vals_dropLast r).reverse, Heap.get?_push_size _ rfl⟩
end
theorem k_rev2 {X : Cx} (K : PySem.W.Frag) (h : X.K = K) {e : Expr} {te : TE} {k k2 : Nat} {p1 p2 p3 p4 p5 pos : Pos} (he : PE X e te) : PE X (.Subscript e (.Slice (some (.UnaryOp .USub (.Constant (.int 2) k2 p4) p5)) none (some (.UnaryOp .USub (.Constant (.int 1) k p1) p2)) p3) pos) (tRev2 K te) := by
  subst h
  exact pe_rev2L he
end My

namespace My
open PySem PySem.Spec PyProof.Rows L2
theorem nil_binds {K : PySem.W.Frag} {fd : FuncData} {ps : List Str} (h : ∃ ds, Vals [] ds ∧ Binds K fd ps ds) : Binds K fd ps [] := by
  obtain ⟨ds, v, b⟩ := h
  cases v
  exact b
def top (i : Nat) : Stmt := PySem.Challenge.pw_wholesound_k96_whole_tables_of_starts.main.body.getD i (.Pass ⟨0, 0, 0, 0⟩)
abbrev s_is_whole : Stmt := top 5
abbrev N_is_whole : List Str := ["value"]
theorem sc_is_whole : FnScope N_is_whole ["value"] (defScope s_is_whole) := ⟨rfl, rfl, rfl, by decide +kernel, rfl, by decide +kernel, by decide +kernel⟩
abbrev s_is_between : Stmt := top 6
abbrev N_is_between : List Str := ["value", "low", "high"]
theorem sc_is_between : FnScope N_is_between ["value", "low", "high"] (defScope s_is_between) := ⟨rfl, rfl, rfl, by decide +kernel, rfl, by decide +kernel, by decide +kernel⟩
abbrev s_are_wholes : Stmt := top 7
abbrev N_are_wholes : List Str := ["value", "item"]
theorem sc_are_wholes : FnScope N_are_wholes ["value"] (defScope s_are_wholes) := ⟨rfl, rfl, rfl, by decide +kernel, rfl, by decide +kernel, by decide +kernel⟩
abbrev s_check_number : Stmt := top 8
abbrev N_check_number : List Str := ["number", "low", "high"]
theorem sc_check_number : FnScope N_check_number ["number", "low", "high"] (defScope s_check_number) := ⟨rfl, rfl, rfl, by decide +kernel, rfl, by decide +kernel, by decide +kernel⟩
abbrev s_check_starts : Stmt := top 11
abbrev N_check_starts : List Str := ["starts", "total", "many", "at"]
theorem sc_check_starts : FnScope N_check_starts ["starts", "total", "many"] (defScope s_check_starts) := ⟨rfl, rfl, rfl, by decide +kernel, rfl, by decide +kernel, by decide +kernel⟩
abbrev s_least_rests : Stmt := top 12
abbrev N_least_rests : List Str := ["starts", "total", "many", "rests", "turn", "ahead", "here", "at", "start", "steps", "spot"]
theorem sc_least_rests : FnScope N_least_rests ["starts", "total", "many"] (defScope s_least_rests) := ⟨rfl, rfl, rfl, by decide +kernel, rfl, by decide +kernel, by decide +kernel⟩
abbrev s_least_step : Stmt := top 13
abbrev N_least_step : List Str := ["starts", "total", "many"]
theorem sc_least_step : FnScope N_least_step ["starts", "total", "many"] (defScope s_least_step) := ⟨rfl, rfl, rfl, by decide +kernel, rfl, by decide +kernel, by decide +kernel⟩
abbrev s_table_counts : Stmt := top 14
abbrev N_table_counts : List Str := ["starts", "total", "many", "step", "counts", "turn", "ahead", "here", "at", "start", "near", "spot"]
theorem sc_table_counts : FnScope N_table_counts ["starts", "total", "many", "step"] (defScope s_table_counts) := ⟨rfl, rfl, rfl, by decide +kernel, rfl, by decide +kernel, by decide +kernel⟩
abbrev s_how_many_tables : Stmt := top 15
abbrev N_how_many_tables : List Str := ["starts", "total", "many", "step"]
theorem sc_how_many_tables : FnScope N_how_many_tables ["starts", "total", "many"] (defScope s_how_many_tables) := ⟨rfl, rfl, rfl, by decide +kernel, rfl, by decide +kernel, by decide +kernel⟩
abbrev s_numbered : Stmt := top 16
abbrev N_numbered : List Str := ["starts", "counts", "step", "number", "ahead", "told", "at", "left", "spot"]
theorem sc_numbered : FnScope N_numbered ["starts", "counts", "step", "number"] (defScope s_numbered) := ⟨rfl, rfl, rfl, by decide +kernel, rfl, by decide +kernel, by decide +kernel⟩
abbrev s_table_at : Stmt := top 17
abbrev N_table_at : List Str := ["starts", "total", "many", "number", "step", "counts"]
theorem sc_table_at : FnScope N_table_at ["starts", "total", "many", "number"] (defScope s_table_at) := ⟨rfl, rfl, rfl, by decide +kernel, rfl, by decide +kernel, by decide +kernel⟩
abbrev s_table : Stmt := top 18
abbrev N_table : List Str := ["starts", "total", "many"]
theorem sc_table : FnScope N_table ["starts", "total", "many"] (defScope s_table) := ⟨rfl, rfl, rfl, by decide +kernel, rfl, by decide +kernel, by decide +kernel⟩
abbrev s_samples_of : Stmt := top 19
abbrev N_samples_of : List Str := ["starts", "total", "start", "behind"]
theorem sc_samples_of : FnScope N_samples_of ["starts", "total"] (defScope s_samples_of) := ⟨rfl, rfl, rfl, by decide +kernel, rfl, by decide +kernel, by decide +kernel⟩
abbrev s_runs_of : Stmt := top 20
abbrev N_runs_of : List Str := ["starts", "total", "step", "high", "ends", "runs", "low"]
theorem sc_runs_of : FnScope N_runs_of ["starts", "total", "step"] (defScope s_runs_of) := ⟨rfl, rfl, rfl, by decide +kernel, rfl, by decide +kernel, by decide +kernel⟩
abbrev s_table_paper : Stmt := top 21
abbrev N_table_paper : List Str := ["starts", "total", "many", "step", "numbers"]
theorem sc_table_paper : FnScope N_table_paper ["starts", "total", "many"] (defScope s_table_paper) := ⟨rfl, rfl, rfl, by decide +kernel, rfl, by decide +kernel, by decide +kernel⟩
abbrev s_is_run : Stmt := top 22
abbrev N_is_run : List Str := ["starts", "total", "step", "value"]
theorem sc_is_run : FnScope N_is_run ["starts", "total", "step", "value"] (defScope s_is_run) := ⟨rfl, rfl, rfl, by decide +kernel, rfl, by decide +kernel, by decide +kernel⟩
abbrev s_is_table_paper : Stmt := top 23
abbrev N_is_table_paper : List Str := ["starts", "total", "many", "value", "step", "word", "told", "run", "at"]
theorem sc_is_table_paper : FnScope N_is_table_paper ["starts", "total", "many", "value"] (defScope s_is_table_paper) := ⟨rfl, rfl, rfl, by decide +kernel, rfl, by decide +kernel, by decide +kernel⟩
abbrev s_law_pump : Stmt := top 25
abbrev N_law_pump : List Str := ["_law_script", "_law_at", "_law_cell", "_law_full", "_law_turn", "_law_deep", "_law_near", "_law_far"]
theorem sc_law_pump : FnScope N_law_pump ["_law_script", "_law_at"] (defScope s_law_pump) := ⟨rfl, rfl, rfl, by decide +kernel, rfl, by decide +kernel, by decide +kernel⟩
abbrev s_law_cup : Stmt := top 26
abbrev N_law_cup : List Str := ["_law_pump_here", "_law_many", "_law_digit"]
theorem sc_law_cup : FnScope N_law_cup ["_law_pump_here", "_law_many"] (defScope s_law_cup) := ⟨rfl, rfl, rfl, by decide +kernel, rfl, by decide +kernel, by decide +kernel⟩
abbrev s_law_starts : Stmt := top 27
abbrev N_law_starts : List Str := ["_law_pump_here", "_law_starts_here", "_law_turn"]
theorem sc_law_starts : FnScope N_law_starts ["_law_pump_here"] (defScope s_law_starts) := ⟨rfl, rfl, rfl, by decide +kernel, rfl, by decide +kernel, by decide +kernel⟩
abbrev s_law_tables : Stmt := top 28
abbrev N_law_tables : List Str := ["_law_starts_here", "_law_many", "_law_found", "_law_start", "_law_some"]
theorem sc_law_tables : FnScope N_law_tables ["_law_starts_here", "_law_many"] (defScope s_law_tables) := ⟨rfl, rfl, rfl, by decide +kernel, rfl, by decide +kernel, by decide +kernel⟩
abbrev s_law_step : Stmt := top 29
abbrev N_law_step : List Str := ["_law_some", "_law_total", "_law_low", "_law_high"]
theorem sc_law_step : FnScope N_law_step ["_law_some", "_law_total"] (defScope s_law_step) := ⟨rfl, rfl, rfl, by decide +kernel, rfl, by decide +kernel, by decide +kernel⟩
abbrev s_law_is_runs : Stmt := top 30
abbrev N_law_is_runs : List Str := ["_law_starts_here", "_law_total", "_law_many", "_law_step_here", "_law_runs", "_law_ends", "_law_at", "_law_run"]
theorem sc_law_is_runs : FnScope N_law_is_runs ["_law_starts_here", "_law_total", "_law_many", "_law_step_here", "_law_runs"] (defScope s_law_is_runs) := ⟨rfl, rfl, rfl, by decide +kernel, rfl, by decide +kernel, by decide +kernel⟩
abbrev s_law_papers_right : Stmt := top 31
abbrev N_law_papers_right : List Str := ["_law_pump_here", "_law_starts_here", "_law_total", "_law_many", "_law_step_here", "_law_lengths", "_law_at", "_law_base", "_law_bent", "_law_turn", "_law_one", "_law_odd", "_law_word", "_law_told", "_law_due", "_law_low", "_law_high"]
theorem sc_law_papers_right : FnScope N_law_papers_right ["_law_pump_here", "_law_starts_here", "_law_total", "_law_many", "_law_step_here"] (defScope s_law_papers_right) := ⟨rfl, rfl, rfl, by decide +kernel, rfl, by decide +kernel, by decide +kernel⟩
abbrev s_law_caught : Stmt := top 32
abbrev N_law_caught : List Str := ["_law_way", "_law_starts_here", "_law_total", "_law_many", "_law_number", "_law_told", "error"]
theorem sc_law_caught : FnScope N_law_caught ["_law_way", "_law_starts_here", "_law_total", "_law_many", "_law_number"] (defScope s_law_caught) := ⟨rfl, rfl, rfl, by decide +kernel, rfl, by decide +kernel, by decide +kernel⟩
abbrev s_law_refused : Stmt := top 33
abbrev N_law_refused : List Str := ["_law_bad", "_law_told", "_law_way", "_law_one"]
theorem sc_law_refused : FnScope N_law_refused [] (defScope s_law_refused) := ⟨rfl, rfl, rfl, by decide +kernel, rfl, by decide +kernel, by decide +kernel⟩
abbrev s_law : Stmt := top 34
abbrev N_law : List Str := ["_law_script", "_law_pump_here", "_law_turn", "_law_starts_here", "_law_some", "_law_step_here", "_law_best", "_law_told", "_law_total", "_law_many", "_law_handed", "_law_by", "_law_one", "_law_start", "_law_at"]
theorem sc_law : FnScope N_law ["_law_script"] (defScope s_law) := ⟨rfl, rfl, rfl, by decide +kernel, rfl, by decide +kernel, by decide +kernel⟩
abbrev s_InvalidStarts___init__ : Stmt := inClass (top 3) 0
theorem nsc_InvalidStarts : NdefX.NScope ["self", "value", "__class__"] ["self", "value"] ["__class__"] (defScope s_InvalidStarts___init__) := NdefX.nscope_by (by decide +kernel)
theorem sb_InvalidStarts : Sup.SupBody s_InvalidStarts___init__ := ⟨_, _, _, _, _, _, _, _, _, _, rfl, by decide +kernel, fun env => ⟨_, rfl⟩⟩
abbrev s_InvalidNumber___init__ : Stmt := inClass (top 2) 0
theorem nsc_InvalidNumber : NdefX.NScope ["self", "value", "__class__"] ["self", "value"] ["__class__"] (defScope s_InvalidNumber___init__) := NdefX.nscope_by (by decide +kernel)
theorem sb_InvalidNumber : Sup.SupBody s_InvalidNumber___init__ := ⟨_, _, _, _, _, _, _, _, _, _, rfl, by decide +kernel, fun env => ⟨_, rfl⟩⟩
def fileS : Str := PySem.Challenge.pw_wholesound_k96_whole_tables_of_starts.main.file
/-- what the top has left -/
structure Top (K : PySem.W.Frag) (mg : Str → Option Value) where
  f_is_whole : Addr
  fd_is_whole : FuncData
  F_is_whole : FunD K "is_whole" "is_whole" (defArgs s_is_whole) (defBody s_is_whole) (defScope s_is_whole) [] [] f_is_whole fd_is_whole
  b_is_whole : Binds K fd_is_whole ["value"] []
  g_is_whole : mg "is_whole" = some (.ref f_is_whole)
  f_is_between : Addr
  fd_is_between : FuncData
  F_is_between : FunD K "is_between" "is_between" (defArgs s_is_between) (defBody s_is_between) (defScope s_is_between) [] [] f_is_between fd_is_between
  b_is_between : Binds K fd_is_between ["value", "low", "high"] []
  g_is_between : mg "is_between" = some (.ref f_is_between)
  f_are_wholes : Addr
  fd_are_wholes : FuncData
  F_are_wholes : FunD K "are_wholes" "are_wholes" (defArgs s_are_wholes) (defBody s_are_wholes) (defScope s_are_wholes) [] [] f_are_wholes fd_are_wholes
  b_are_wholes : Binds K fd_are_wholes ["value"] []
  g_are_wholes : mg "are_wholes" = some (.ref f_are_wholes)
  f_check_number : Addr
  fd_check_number : FuncData
  F_check_number : FunD K "check_number" "check_number" (defArgs s_check_number) (defBody s_check_number) (defScope s_check_number) [] [] f_check_number fd_check_number
  b_check_number : Binds K fd_check_number ["number", "low", "high"] []
  g_check_number : mg "check_number" = some (.ref f_check_number)
  f_check_starts : Addr
  fd_check_starts : FuncData
  F_check_starts : FunD K "check_starts" "check_starts" (defArgs s_check_starts) (defBody s_check_starts) (defScope s_check_starts) [] [] f_check_starts fd_check_starts
  b_check_starts : Binds K fd_check_starts ["starts", "total", "many"] []
  g_check_starts : mg "check_starts" = some (.ref f_check_starts)
  f_least_rests : Addr
  fd_least_rests : FuncData
  F_least_rests : FunD K "least_rests" "least_rests" (defArgs s_least_rests) (defBody s_least_rests) (defScope s_least_rests) [] [] f_least_rests fd_least_rests
  b_least_rests : Binds K fd_least_rests ["starts", "total", "many"] []
  g_least_rests : mg "least_rests" = some (.ref f_least_rests)
  f_least_step : Addr
  fd_least_step : FuncData
  F_least_step : FunD K "least_step" "least_step" (defArgs s_least_step) (defBody s_least_step) (defScope s_least_step) [] [] f_least_step fd_least_step
  b_least_step : Binds K fd_least_step ["starts", "total", "many"] []
  g_least_step : mg "least_step" = some (.ref f_least_step)
  f_table_counts : Addr
  fd_table_counts : FuncData
  F_table_counts : FunD K "table_counts" "table_counts" (defArgs s_table_counts) (defBody s_table_counts) (defScope s_table_counts) [] [] f_table_counts fd_table_counts
  b_table_counts : Binds K fd_table_counts ["starts", "total", "many", "step"] []
  g_table_counts : mg "table_counts" = some (.ref f_table_counts)
  f_how_many_tables : Addr
  fd_how_many_tables : FuncData
  F_how_many_tables : FunD K "how_many_tables" "how_many_tables" (defArgs s_how_many_tables) (defBody s_how_many_tables) (defScope s_how_many_tables) [] [] f_how_many_tables fd_how_many_tables
  b_how_many_tables : Binds K fd_how_many_tables ["starts", "total", "many"] []
  g_how_many_tables : mg "how_many_tables" = some (.ref f_how_many_tables)
  f_numbered : Addr
  fd_numbered : FuncData
  F_numbered : FunD K "numbered" "numbered" (defArgs s_numbered) (defBody s_numbered) (defScope s_numbered) [] [] f_numbered fd_numbered
  b_numbered : Binds K fd_numbered ["starts", "counts", "step", "number"] []
  g_numbered : mg "numbered" = some (.ref f_numbered)
  f_table_at : Addr
  fd_table_at : FuncData
  F_table_at : FunD K "table_at" "table_at" (defArgs s_table_at) (defBody s_table_at) (defScope s_table_at) [] [] f_table_at fd_table_at
  b_table_at : Binds K fd_table_at ["starts", "total", "many", "number"] []
  g_table_at : mg "table_at" = some (.ref f_table_at)
  f_table : Addr
  fd_table : FuncData
  F_table : FunD K "table" "table" (defArgs s_table) (defBody s_table) (defScope s_table) [] [] f_table fd_table
  b_table : Binds K fd_table ["starts", "total", "many"] []
  g_table : mg "table" = some (.ref f_table)
  f_samples_of : Addr
  fd_samples_of : FuncData
  F_samples_of : FunD K "samples_of" "samples_of" (defArgs s_samples_of) (defBody s_samples_of) (defScope s_samples_of) [] [] f_samples_of fd_samples_of
  b_samples_of : Binds K fd_samples_of ["starts", "total"] []
  g_samples_of : mg "samples_of" = some (.ref f_samples_of)
  f_runs_of : Addr
  fd_runs_of : FuncData
  F_runs_of : FunD K "runs_of" "runs_of" (defArgs s_runs_of) (defBody s_runs_of) (defScope s_runs_of) [] [] f_runs_of fd_runs_of
  b_runs_of : Binds K fd_runs_of ["starts", "total", "step"] []
  g_runs_of : mg "runs_of" = some (.ref f_runs_of)
  f_table_paper : Addr
  fd_table_paper : FuncData
  F_table_paper : FunD K "table_paper" "table_paper" (defArgs s_table_paper) (defBody s_table_paper) (defScope s_table_paper) [] [] f_table_paper fd_table_paper
  b_table_paper : Binds K fd_table_paper ["starts", "total", "many"] []
  g_table_paper : mg "table_paper" = some (.ref f_table_paper)
  f_is_run : Addr
  fd_is_run : FuncData
  F_is_run : FunD K "is_run" "is_run" (defArgs s_is_run) (defBody s_is_run) (defScope s_is_run) [] [] f_is_run fd_is_run
  b_is_run : Binds K fd_is_run ["starts", "total", "step", "value"] []
  g_is_run : mg "is_run" = some (.ref f_is_run)
  f_is_table_paper : Addr
  fd_is_table_paper : FuncData
  F_is_table_paper : FunD K "is_table_paper" "is_table_paper" (defArgs s_is_table_paper) (defBody s_is_table_paper) (defScope s_is_table_paper) [] [] f_is_table_paper fd_is_table_paper
  b_is_table_paper : Binds K fd_is_table_paper ["starts", "total", "many", "value"] []
  g_is_table_paper : mg "is_table_paper" = some (.ref f_is_table_paper)
  f_law_pump : Addr
  fd_law_pump : FuncData
  F_law_pump : FunD K "_law_pump" "_law_pump" (defArgs s_law_pump) (defBody s_law_pump) (defScope s_law_pump) [] [] f_law_pump fd_law_pump
  b_law_pump : Binds K fd_law_pump ["_law_script", "_law_at"] []
  g_law_pump : mg "_law_pump" = some (.ref f_law_pump)
  f_law_cup : Addr
  fd_law_cup : FuncData
  F_law_cup : FunD K "_law_cup" "_law_cup" (defArgs s_law_cup) (defBody s_law_cup) (defScope s_law_cup) [] [] f_law_cup fd_law_cup
  b_law_cup : Binds K fd_law_cup ["_law_pump_here", "_law_many"] []
  g_law_cup : mg "_law_cup" = some (.ref f_law_cup)
  f_law_starts : Addr
  fd_law_starts : FuncData
  F_law_starts : FunD K "_law_starts" "_law_starts" (defArgs s_law_starts) (defBody s_law_starts) (defScope s_law_starts) [] [] f_law_starts fd_law_starts
  b_law_starts : Binds K fd_law_starts ["_law_pump_here"] []
  g_law_starts : mg "_law_starts" = some (.ref f_law_starts)
  f_law_tables : Addr
  fd_law_tables : FuncData
  F_law_tables : FunD K "_law_tables" "_law_tables" (defArgs s_law_tables) (defBody s_law_tables) (defScope s_law_tables) [] [] f_law_tables fd_law_tables
  b_law_tables : Binds K fd_law_tables ["_law_starts_here", "_law_many"] []
  g_law_tables : mg "_law_tables" = some (.ref f_law_tables)
  f_law_step : Addr
  fd_law_step : FuncData
  F_law_step : FunD K "_law_step" "_law_step" (defArgs s_law_step) (defBody s_law_step) (defScope s_law_step) [] [] f_law_step fd_law_step
  b_law_step : Binds K fd_law_step ["_law_some", "_law_total"] []
  g_law_step : mg "_law_step" = some (.ref f_law_step)
  f_law_is_runs : Addr
  fd_law_is_runs : FuncData
  F_law_is_runs : FunD K "_law_is_runs" "_law_is_runs" (defArgs s_law_is_runs) (defBody s_law_is_runs) (defScope s_law_is_runs) [] [] f_law_is_runs fd_law_is_runs
  b_law_is_runs : Binds K fd_law_is_runs ["_law_starts_here", "_law_total", "_law_many", "_law_step_here", "_law_runs"] []
  g_law_is_runs : mg "_law_is_runs" = some (.ref f_law_is_runs)
  f_law_papers_right : Addr
  fd_law_papers_right : FuncData
  F_law_papers_right : FunD K "_law_papers_right" "_law_papers_right" (defArgs s_law_papers_right) (defBody s_law_papers_right) (defScope s_law_papers_right) [] [] f_law_papers_right fd_law_papers_right
  b_law_papers_right : Binds K fd_law_papers_right ["_law_pump_here", "_law_starts_here", "_law_total", "_law_many", "_law_step_here"] []
  g_law_papers_right : mg "_law_papers_right" = some (.ref f_law_papers_right)
  f_law_caught : Addr
  fd_law_caught : FuncData
  F_law_caught : FunD K "_law_caught" "_law_caught" (defArgs s_law_caught) (defBody s_law_caught) (defScope s_law_caught) [] [] f_law_caught fd_law_caught
  b_law_caught : Binds K fd_law_caught ["_law_way", "_law_starts_here", "_law_total", "_law_many", "_law_number"] []
  g_law_caught : mg "_law_caught" = some (.ref f_law_caught)
  f_law_refused : Addr
  fd_law_refused : FuncData
  F_law_refused : FunD K "_law_refused" "_law_refused" (defArgs s_law_refused) (defBody s_law_refused) (defScope s_law_refused) [] [] f_law_refused fd_law_refused
  b_law_refused : Binds K fd_law_refused [] []
  g_law_refused : mg "_law_refused" = some (.ref f_law_refused)
  f_law : Addr
  fd_law : FuncData
  F_law : FunD K "law" "law" (defArgs s_law) (defBody s_law) (defScope s_law) [] [] f_law fd_law
  b_law : Binds K fd_law ["_law_script"] []
  g_law : mg "law" = some (.ref f_law)
  C_InvalidStarts : Addr
  gc_InvalidStarts : mg "InvalidStarts" = some (.ref C_InvalidStarts)
  fi_InvalidStarts : Addr
  fd_InvalidStarts : FuncData
  er_InvalidStarts : ErrC K fileS "InvalidStarts" s_InvalidStarts___init__ C_InvalidStarts fi_InvalidStarts fd_InvalidStarts
  C_InvalidNumber : Addr
  gc_InvalidNumber : mg "InvalidNumber" = some (.ref C_InvalidNumber)
  fi_InvalidNumber : Addr
  fd_InvalidNumber : FuncData
  er_InvalidNumber : ErrC K fileS "InvalidNumber" s_InvalidNumber___init__ C_InvalidNumber fi_InvalidNumber fd_InvalidNumber
  em_InvalidStarts_InvalidStarts : PySem.W.exmOne K (.ref C_InvalidStarts) (.ref C_InvalidStarts) = some true
  em_InvalidStarts_InvalidNumber : PySem.W.exmOne K (.ref C_InvalidStarts) (.ref C_InvalidNumber) = some false
  em_InvalidNumber_InvalidStarts : PySem.W.exmOne K (.ref C_InvalidNumber) (.ref C_InvalidStarts) = some false
  em_InvalidNumber_InvalidNumber : PySem.W.exmOne K (.ref C_InvalidNumber) (.ref C_InvalidNumber) = some true
  n_len : mg "len" = none
  n_sum : mg "sum" = none
  n_max : mg "max" = none
  n_min : mg "min" = none
  n_int : mg "int" = none
  n_bool : mg "bool" = none
  n_list : mg "list" = none
  n_tuple : mg "tuple" = none
  n_str : mg "str" = none
  n_range : mg "range" = none
  n_isinstance : mg "isinstance" = none
  n_enumerate : mg "enumerate" = none
  n_zip : mg "zip" = none
  n_sorted : mg "sorted" = none
  n_repr : mg "repr" = none
  n_super : mg "super" = none
  t_MOST_STARTS : Tok
  m_MOST_STARTS : mg "MOST_STARTS" = some (.int 60 t_MOST_STARTS)
def d_is_whole : He.DefD := ⟨("is_whole", none), "is_whole", "is_whole", defArgs s_is_whole, defBody s_is_whole, defScope s_is_whole, [], []⟩
def d_is_between : He.DefD := ⟨("is_between", none), "is_between", "is_between", defArgs s_is_between, defBody s_is_between, defScope s_is_between, [], []⟩
def d_are_wholes : He.DefD := ⟨("are_wholes", none), "are_wholes", "are_wholes", defArgs s_are_wholes, defBody s_are_wholes, defScope s_are_wholes, [], []⟩
def d_check_number : He.DefD := ⟨("check_number", none), "check_number", "check_number", defArgs s_check_number, defBody s_check_number, defScope s_check_number, [], []⟩
def d_check_starts : He.DefD := ⟨("check_starts", none), "check_starts", "check_starts", defArgs s_check_starts, defBody s_check_starts, defScope s_check_starts, [], []⟩
def d_least_rests : He.DefD := ⟨("least_rests", none), "least_rests", "least_rests", defArgs s_least_rests, defBody s_least_rests, defScope s_least_rests, [], []⟩
def d_least_step : He.DefD := ⟨("least_step", none), "least_step", "least_step", defArgs s_least_step, defBody s_least_step, defScope s_least_step, [], []⟩
def d_table_counts : He.DefD := ⟨("table_counts", none), "table_counts", "table_counts", defArgs s_table_counts, defBody s_table_counts, defScope s_table_counts, [], []⟩
def d_how_many_tables : He.DefD := ⟨("how_many_tables", none), "how_many_tables", "how_many_tables", defArgs s_how_many_tables, defBody s_how_many_tables, defScope s_how_many_tables, [], []⟩
def d_numbered : He.DefD := ⟨("numbered", none), "numbered", "numbered", defArgs s_numbered, defBody s_numbered, defScope s_numbered, [], []⟩
def d_table_at : He.DefD := ⟨("table_at", none), "table_at", "table_at", defArgs s_table_at, defBody s_table_at, defScope s_table_at, [], []⟩
def d_table : He.DefD := ⟨("table", none), "table", "table", defArgs s_table, defBody s_table, defScope s_table, [], []⟩
def d_samples_of : He.DefD := ⟨("samples_of", none), "samples_of", "samples_of", defArgs s_samples_of, defBody s_samples_of, defScope s_samples_of, [], []⟩
def d_runs_of : He.DefD := ⟨("runs_of", none), "runs_of", "runs_of", defArgs s_runs_of, defBody s_runs_of, defScope s_runs_of, [], []⟩
def d_table_paper : He.DefD := ⟨("table_paper", none), "table_paper", "table_paper", defArgs s_table_paper, defBody s_table_paper, defScope s_table_paper, [], []⟩
def d_is_run : He.DefD := ⟨("is_run", none), "is_run", "is_run", defArgs s_is_run, defBody s_is_run, defScope s_is_run, [], []⟩
def d_is_table_paper : He.DefD := ⟨("is_table_paper", none), "is_table_paper", "is_table_paper", defArgs s_is_table_paper, defBody s_is_table_paper, defScope s_is_table_paper, [], []⟩
def d_law_pump : He.DefD := ⟨("_law_pump", none), "_law_pump", "_law_pump", defArgs s_law_pump, defBody s_law_pump, defScope s_law_pump, [], []⟩
def d_law_cup : He.DefD := ⟨("_law_cup", none), "_law_cup", "_law_cup", defArgs s_law_cup, defBody s_law_cup, defScope s_law_cup, [], []⟩
def d_law_starts : He.DefD := ⟨("_law_starts", none), "_law_starts", "_law_starts", defArgs s_law_starts, defBody s_law_starts, defScope s_law_starts, [], []⟩
def d_law_tables : He.DefD := ⟨("_law_tables", none), "_law_tables", "_law_tables", defArgs s_law_tables, defBody s_law_tables, defScope s_law_tables, [], []⟩
def d_law_step : He.DefD := ⟨("_law_step", none), "_law_step", "_law_step", defArgs s_law_step, defBody s_law_step, defScope s_law_step, [], []⟩
def d_law_is_runs : He.DefD := ⟨("_law_is_runs", none), "_law_is_runs", "_law_is_runs", defArgs s_law_is_runs, defBody s_law_is_runs, defScope s_law_is_runs, [], []⟩
def d_law_papers_right : He.DefD := ⟨("_law_papers_right", none), "_law_papers_right", "_law_papers_right", defArgs s_law_papers_right, defBody s_law_papers_right, defScope s_law_papers_right, [], []⟩
def d_law_caught : He.DefD := ⟨("_law_caught", none), "_law_caught", "_law_caught", defArgs s_law_caught, defBody s_law_caught, defScope s_law_caught, [], []⟩
def d_law_refused : He.DefD := ⟨("_law_refused", none), "_law_refused", "_law_refused", defArgs s_law_refused, defBody s_law_refused, defScope s_law_refused, [], []⟩
def d_law : He.DefD := ⟨("law", none), "law", "law", defArgs s_law, defBody s_law, defScope s_law, [], []⟩
def fn : List He.DefD := [d_is_whole, d_is_between, d_are_wholes, d_check_number, d_check_starts, d_least_rests, d_least_step, d_table_counts, d_how_many_tables, d_numbered, d_table_at, d_table, d_samples_of, d_runs_of, d_table_paper, d_is_run, d_is_table_paper, d_law_pump, d_law_cup, d_law_starts, d_law_tables, d_law_step, d_law_is_runs, d_law_papers_right, d_law_caught, d_law_refused, d_law]
def fa0 : List He.Fa := [.glo "is_whole", .glo "is_between", .glo "are_wholes", .glo "check_number", .glo "check_starts", .glo "least_rests", .glo "least_step", .glo "table_counts", .glo "how_many_tables", .glo "numbered", .glo "table_at", .glo "table", .glo "samples_of", .glo "runs_of", .glo "table_paper", .glo "is_run", .glo "is_table_paper", .glo "_law_pump", .glo "_law_cup", .glo "_law_starts", .glo "_law_tables", .glo "_law_step", .glo "_law_is_runs", .glo "_law_papers_right", .glo "_law_caught", .glo "_law_refused", .glo "law", .free "len", .free "sum", .free "max"]
def fa1 : List He.Fa := [.free "min", .free "int", .free "bool", .free "list", .free "tuple", .free "str", .free "range", .free "isinstance", .free "enumerate", .free "zip", .free "sorted", .free "repr", .free "super", .int "MOST_STARTS" 60, .glo "InvalidStarts", .glo "InvalidNumber"]
def fa : List He.Fa := fa0 ++ fa1
/-- isinstance of an own class -/
def insB (K : PySem.W.Frag) (x : Str) : Bool := decide (PySem.W.findIn K (.ref (He.ga K x)) "__class__" = some (some (.builtin "object.__class__"))) && (decide (PySem.W.specialIn K (.builtin "object.__class__") "__get__" = some (some (.builtin "getset_descriptor.__get__"))) && (decide (PySem.W.takesIn K (.builtin "object.__class__") = some true) && (decide (PySem.W.mroIn K (He.ga K x) (.type "object") = some true) && decide (PySem.W.kitOne K (.ref (He.ga K x)) (.ref (He.ga K x)) = some true))))
theorem insB_ok {K : PySem.W.Frag} {x : Str} (cl : Cls K (He.ga K x)) (h : insB K x = true) : C8.InsC K (He.ga K x) := by
  unfold insB at h
  simp only [Bool.and_eq_true, decide_eq_true_eq] at h
  exact ⟨cl, h.1, h.2.1, h.2.2.1, h.2.2.2.1, h.2.2.2.2⟩
def eqB (K : PySem.W.Frag) (x : Str) : Bool := decide (PySem.W.findIn K (.ref (He.ga K x)) "__ne__" = some (some (.builtin "object.__ne__"))) && (decide (PySem.W.subIn K (.ref (He.ga K x)) (.type "object") = some true) && (decide (PySem.W.subIn K (.type "list") (.ref (He.ga K x)) = some false) && (decide (PySem.W.kitOne K (.type "list") (.ref (He.ga K x)) = some false) && (decide (PySem.W.subIn K (.type "tuple") (.ref (He.ga K x)) = some false) && decide (PySem.W.kitOne K (.type "tuple") (.ref (He.ga K x)) = some false)))))
def eqs : List Str := []
def own : List Str := []
def ex (K : PySem.W.Frag) : Bool := (own.all fun x => insB K x) && eqs.all fun x => eqB K x
abbrev R : PySem.W.OpenRow := PySem.W.OpenLaw.row PySem.Challenge.rw_wholesound_k96_whole_tables_of_starts
def errs : List Str := ["InvalidStarts", "InvalidNumber"]
def ems : List (Str × Str × Bool) := [(("InvalidStarts" : Str), ("InvalidStarts" : Str), true), (("InvalidStarts" : Str), ("InvalidNumber" : Str), false), (("InvalidNumber" : Str), ("InvalidStarts" : Str), false), (("InvalidNumber" : Str), ("InvalidNumber" : Str), true)]
def emB (K : PySem.W.Frag) (z : Str × Str × Bool) : Bool := decide (PySem.W.exmOne K (.ref (He.ga K z.1)) (.ref (He.ga K z.2.1)) = some z.2.2)
def erV : List ErW := [some (("__init__" : Str), ("InvalidStarts" : Str) ++ (".__init__" : Str), defArgs s_InvalidStarts___init__, FuncBody.stmts (defBody s_InvalidStarts___init__), defScope s_InvalidStarts___init__, mainGlobals, builtinsNs), some (("__init__" : Str), ("InvalidNumber" : Str) ++ (".__init__" : Str), defArgs s_InvalidNumber___init__, FuncBody.stmts (defBody s_InvalidNumber___init__), defScope s_InvalidNumber___init__, mainGlobals, builtinsNs)]
def exP (K : PySem.W.Frag) : Bool := ex K && ((errs.all fun z => errB K fileS z) && ems.all fun z => emB K z)
def exW (K : PySem.W.Frag) : List ErW := errs.map fun z => erW K z
abbrev Al : Type := He.AlD × Bool × List ErW
def frK (g : Addr → Option Obj) : PySem.W.Frag := He.frG g (cStatics :: He.asD g 5)
def obsG (g : Addr → Option Obj) : Al := (He.obsD fa fn (frK g), exP (frK g), exW (frK g))
def Says (K : PySem.W.Frag) : Prop := He.SaysD fa fn K ∧ ex K = true ∧ (∀ z ∈ errs, errB K fileS z = true) ∧ (∀ z ∈ ems, emB K z = true) ∧ exW K = erV
theorem says_of {K : PySem.W.Frag} (e : (He.obsD fa fn K, exP K, exW K) = ((He.valD fn, true, erV) : Al)) : Says K := by
  have e1 := congrArg Prod.fst e
  have e2 := congrArg (fun z : Al => z.2.1) e
  have e3 := congrArg (fun z : Al => z.2.2) e
  have e4 : ex K = true ∧ ((errs.all fun z => errB K fileS z) && ems.all fun z => emB K z) = true := Bool.and_eq_true_iff.mp (show (ex K && ((errs.all fun z => errB K fileS z) && ems.all fun z => emB K z)) = true from e2)
  have e5 : (errs.all fun z => errB K fileS z) = true ∧ (ems.all fun z => emB K z) = true := Bool.and_eq_true_iff.mp e4.2
  exact ⟨e1, e4.1, List.all_eq_true.mp e5.1, List.all_eq_true.mp e5.2, e3⟩
theorem erV_at {K : PySem.W.Frag} {ps : List Str} {vs : List ErW} (e : (ps.map fun z => erW K z) = vs) (i : Nat) {z : Str} {v : ErW} (hz : ps[i]? = some z) (hv : vs[i]? = some v) : erW K z = v := by
  rw [← e, List.getElem?_map, hz] at hv
  exact Option.some.inj hv
def hk : PySem.W.Hook where
  α := Al
  obs := fun s => obsG s.heap.get?
  val := fun _ => (He.valD fn, true, erV)
  says := fun _ h => ∃ K : PySem.W.Frag, K.In h ∧ Says K
  of := fun _ _ e => ⟨_, He.frG_in, says_of e⟩
  keeps := fun _ _ _ ⟨K, hK, c⟩ k => ⟨K, PySem.W.Frag.In.keeps hK k, c⟩
def ob (s : PySem.W.SharedT) : Al := obsG (HandSHeadRun.getT s)
theorem ob_eq (s : PySem.W.SharedT) : ob s = hk.obs s.abs := by
  have e : HandSHeadRun.getT s = s.abs.heap.get? := funext (HandSHeadRun.getT_eq s)
  show obsG (HandSHeadRun.getT s) = obsG s.abs.heap.get?
  rw [e]
def loose0 : List PySem.Str := ["SoundError", "InvalidNumber", "InvalidStarts", "is_whole", "is_between", "are_wholes", "check_number", "MOST_STARTS", "check_starts", "least_rests", "least_step", "table_counts", "how_many_tables", "numbered", "table_at", "table", "samples_of", "runs_of", "table_paper", "is_run", "is_table_paper", "_law_pump", "_law_cup", "_law_starts", "_law_tables", "_law_step", "_law_is_runs", "_law_papers_right", "_law_caught", "_law_refused"]
abbrev loose : List PySem.Str := loose0
theorem run (w : World) : HandSHeadRun.RunEq R (PySem.W.view R.prog [34]) hk ob 8000 loose w := by
  intro os
  kernel_rfl
noncomputable def top_mk {K : PySem.W.Frag} {h : Heap} {mg : Str → Option Value} (X : K.In h) (G : h.Ns mainGlobals mg) (c : Says K) : Top K mg :=
  let p0 := c.1.def_ 0 (d := d_is_whole) rfl
  let p1 := c.1.def_ 1 (d := d_is_between) rfl
  let p2 := c.1.def_ 2 (d := d_are_wholes) rfl
  let p3 := c.1.def_ 3 (d := d_check_number) rfl
  let p4 := c.1.def_ 4 (d := d_check_starts) rfl
  let p5 := c.1.def_ 5 (d := d_least_rests) rfl
  let p6 := c.1.def_ 6 (d := d_least_step) rfl
  let p7 := c.1.def_ 7 (d := d_table_counts) rfl
  let p8 := c.1.def_ 8 (d := d_how_many_tables) rfl
  let p9 := c.1.def_ 9 (d := d_numbered) rfl
  let p10 := c.1.def_ 10 (d := d_table_at) rfl
  let p11 := c.1.def_ 11 (d := d_table) rfl
  let p12 := c.1.def_ 12 (d := d_samples_of) rfl
  let p13 := c.1.def_ 13 (d := d_runs_of) rfl
  let p14 := c.1.def_ 14 (d := d_table_paper) rfl
  let p15 := c.1.def_ 15 (d := d_is_run) rfl
  let p16 := c.1.def_ 16 (d := d_is_table_paper) rfl
  let p17 := c.1.def_ 17 (d := d_law_pump) rfl
  let p18 := c.1.def_ 18 (d := d_law_cup) rfl
  let p19 := c.1.def_ 19 (d := d_law_starts) rfl
  let p20 := c.1.def_ 20 (d := d_law_tables) rfl
  let p21 := c.1.def_ 21 (d := d_law_step) rfl
  let p22 := c.1.def_ 22 (d := d_law_is_runs) rfl
  let p23 := c.1.def_ 23 (d := d_law_papers_right) rfl
  let p24 := c.1.def_ 24 (d := d_law_caught) rfl
  let p25 := c.1.def_ 25 (d := d_law_refused) rfl
  let p26 := c.1.def_ 26 (d := d_law) rfl
  let q0 := He.int_ok X G (c.1.fact 43 (f := .int "MOST_STARTS" 60) rfl)
  let er0 := err_ok (K := K) (file := fileS) (x := "InvalidStarts") (st := s_InvalidStarts___init__) (c.2.2.1 "InvalidStarts" (by decide +kernel)) (erV_at c.2.2.2.2 0 (z := "InvalidStarts") rfl rfl) (fun _ _ _ _ _ _ _ _ us its h1 h2 => match us, its, h1, h2 with | [_, _], [_], _, _ => ⟨_, rfl, rfl⟩)
  let er1 := err_ok (K := K) (file := fileS) (x := "InvalidNumber") (st := s_InvalidNumber___init__) (c.2.2.1 "InvalidNumber" (by decide +kernel)) (erV_at c.2.2.2.2 1 (z := "InvalidNumber") rfl rfl) (fun _ _ _ _ _ _ _ _ us its h1 h2 => match us, its, h1, h2 with | [_, _], [_], _, _ => ⟨_, rfl, rfl⟩)
  { C_InvalidStarts := _, gc_InvalidStarts := He.glo_ok X G (c.1.fact 44 (f := .glo "InvalidStarts") rfl), fi_InvalidStarts := _, fd_InvalidStarts := er0.choose, er_InvalidStarts := er0.choose_spec,
    C_InvalidNumber := _, gc_InvalidNumber := He.glo_ok X G (c.1.fact 45 (f := .glo "InvalidNumber") rfl), fi_InvalidNumber := _, fd_InvalidNumber := er1.choose, er_InvalidNumber := er1.choose_spec,
    em_InvalidStarts_InvalidStarts := of_decide_eq_true (c.2.2.2.1 ("InvalidStarts", "InvalidStarts", true) (by decide +kernel)),
    em_InvalidStarts_InvalidNumber := of_decide_eq_true (c.2.2.2.1 ("InvalidStarts", "InvalidNumber", false) (by decide +kernel)),
    em_InvalidNumber_InvalidStarts := of_decide_eq_true (c.2.2.2.1 ("InvalidNumber", "InvalidStarts", false) (by decide +kernel)),
    em_InvalidNumber_InvalidNumber := of_decide_eq_true (c.2.2.2.1 ("InvalidNumber", "InvalidNumber", true) (by decide +kernel)),
    f_is_whole := _, fd_is_whole := p0.choose, F_is_whole := p0.choose_spec, b_is_whole := p0.choose_spec.bindsN fun _ _ _ _ _ _ us hl => match us, hl with | [_], _ => rfl, g_is_whole := He.glo_ok X G (c.1.fact 0 (f := .glo "is_whole") rfl),
    f_is_between := _, fd_is_between := p1.choose, F_is_between := p1.choose_spec, b_is_between := p1.choose_spec.bindsN fun _ _ _ _ _ _ us hl => match us, hl with | [_, _, _], _ => rfl, g_is_between := He.glo_ok X G (c.1.fact 1 (f := .glo "is_between") rfl),
    f_are_wholes := _, fd_are_wholes := p2.choose, F_are_wholes := p2.choose_spec, b_are_wholes := p2.choose_spec.bindsN fun _ _ _ _ _ _ us hl => match us, hl with | [_], _ => rfl, g_are_wholes := He.glo_ok X G (c.1.fact 2 (f := .glo "are_wholes") rfl),
    f_check_number := _, fd_check_number := p3.choose, F_check_number := p3.choose_spec, b_check_number := p3.choose_spec.bindsN fun _ _ _ _ _ _ us hl => match us, hl with | [_, _, _], _ => rfl, g_check_number := He.glo_ok X G (c.1.fact 3 (f := .glo "check_number") rfl),
    f_check_starts := _, fd_check_starts := p4.choose, F_check_starts := p4.choose_spec, b_check_starts := p4.choose_spec.bindsN fun _ _ _ _ _ _ us hl => match us, hl with | [_, _, _], _ => rfl, g_check_starts := He.glo_ok X G (c.1.fact 4 (f := .glo "check_starts") rfl),
    f_least_rests := _, fd_least_rests := p5.choose, F_least_rests := p5.choose_spec, b_least_rests := p5.choose_spec.bindsN fun _ _ _ _ _ _ us hl => match us, hl with | [_, _, _], _ => rfl, g_least_rests := He.glo_ok X G (c.1.fact 5 (f := .glo "least_rests") rfl),
    f_least_step := _, fd_least_step := p6.choose, F_least_step := p6.choose_spec, b_least_step := p6.choose_spec.bindsN fun _ _ _ _ _ _ us hl => match us, hl with | [_, _, _], _ => rfl, g_least_step := He.glo_ok X G (c.1.fact 6 (f := .glo "least_step") rfl),
    f_table_counts := _, fd_table_counts := p7.choose, F_table_counts := p7.choose_spec, b_table_counts := p7.choose_spec.bindsN fun _ _ _ _ _ _ us hl => match us, hl with | [_, _, _, _], _ => rfl, g_table_counts := He.glo_ok X G (c.1.fact 7 (f := .glo "table_counts") rfl),
    f_how_many_tables := _, fd_how_many_tables := p8.choose, F_how_many_tables := p8.choose_spec, b_how_many_tables := p8.choose_spec.bindsN fun _ _ _ _ _ _ us hl => match us, hl with | [_, _, _], _ => rfl, g_how_many_tables := He.glo_ok X G (c.1.fact 8 (f := .glo "how_many_tables") rfl),
    f_numbered := _, fd_numbered := p9.choose, F_numbered := p9.choose_spec, b_numbered := p9.choose_spec.bindsN fun _ _ _ _ _ _ us hl => match us, hl with | [_, _, _, _], _ => rfl, g_numbered := He.glo_ok X G (c.1.fact 9 (f := .glo "numbered") rfl),
    f_table_at := _, fd_table_at := p10.choose, F_table_at := p10.choose_spec, b_table_at := p10.choose_spec.bindsN fun _ _ _ _ _ _ us hl => match us, hl with | [_, _, _, _], _ => rfl, g_table_at := He.glo_ok X G (c.1.fact 10 (f := .glo "table_at") rfl),
    f_table := _, fd_table := p11.choose, F_table := p11.choose_spec, b_table := p11.choose_spec.bindsN fun _ _ _ _ _ _ us hl => match us, hl with | [_, _, _], _ => rfl, g_table := He.glo_ok X G (c.1.fact 11 (f := .glo "table") rfl),
    f_samples_of := _, fd_samples_of := p12.choose, F_samples_of := p12.choose_spec, b_samples_of := p12.choose_spec.bindsN fun _ _ _ _ _ _ us hl => match us, hl with | [_, _], _ => rfl, g_samples_of := He.glo_ok X G (c.1.fact 12 (f := .glo "samples_of") rfl),
    f_runs_of := _, fd_runs_of := p13.choose, F_runs_of := p13.choose_spec, b_runs_of := p13.choose_spec.bindsN fun _ _ _ _ _ _ us hl => match us, hl with | [_, _, _], _ => rfl, g_runs_of := He.glo_ok X G (c.1.fact 13 (f := .glo "runs_of") rfl),
    f_table_paper := _, fd_table_paper := p14.choose, F_table_paper := p14.choose_spec, b_table_paper := p14.choose_spec.bindsN fun _ _ _ _ _ _ us hl => match us, hl with | [_, _, _], _ => rfl, g_table_paper := He.glo_ok X G (c.1.fact 14 (f := .glo "table_paper") rfl),
    f_is_run := _, fd_is_run := p15.choose, F_is_run := p15.choose_spec, b_is_run := p15.choose_spec.bindsN fun _ _ _ _ _ _ us hl => match us, hl with | [_, _, _, _], _ => rfl, g_is_run := He.glo_ok X G (c.1.fact 15 (f := .glo "is_run") rfl),
    f_is_table_paper := _, fd_is_table_paper := p16.choose, F_is_table_paper := p16.choose_spec, b_is_table_paper := p16.choose_spec.bindsN fun _ _ _ _ _ _ us hl => match us, hl with | [_, _, _, _], _ => rfl, g_is_table_paper := He.glo_ok X G (c.1.fact 16 (f := .glo "is_table_paper") rfl),
    f_law_pump := _, fd_law_pump := p17.choose, F_law_pump := p17.choose_spec, b_law_pump := p17.choose_spec.bindsN fun _ _ _ _ _ _ us hl => match us, hl with | [_, _], _ => rfl, g_law_pump := He.glo_ok X G (c.1.fact 17 (f := .glo "_law_pump") rfl),
    f_law_cup := _, fd_law_cup := p18.choose, F_law_cup := p18.choose_spec, b_law_cup := p18.choose_spec.bindsN fun _ _ _ _ _ _ us hl => match us, hl with | [_, _], _ => rfl, g_law_cup := He.glo_ok X G (c.1.fact 18 (f := .glo "_law_cup") rfl),
    f_law_starts := _, fd_law_starts := p19.choose, F_law_starts := p19.choose_spec, b_law_starts := p19.choose_spec.bindsN fun _ _ _ _ _ _ us hl => match us, hl with | [_], _ => rfl, g_law_starts := He.glo_ok X G (c.1.fact 19 (f := .glo "_law_starts") rfl),
    f_law_tables := _, fd_law_tables := p20.choose, F_law_tables := p20.choose_spec, b_law_tables := p20.choose_spec.bindsN fun _ _ _ _ _ _ us hl => match us, hl with | [_, _], _ => rfl, g_law_tables := He.glo_ok X G (c.1.fact 20 (f := .glo "_law_tables") rfl),
    f_law_step := _, fd_law_step := p21.choose, F_law_step := p21.choose_spec, b_law_step := p21.choose_spec.bindsN fun _ _ _ _ _ _ us hl => match us, hl with | [_, _], _ => rfl, g_law_step := He.glo_ok X G (c.1.fact 21 (f := .glo "_law_step") rfl),
    f_law_is_runs := _, fd_law_is_runs := p22.choose, F_law_is_runs := p22.choose_spec, b_law_is_runs := p22.choose_spec.bindsN fun _ _ _ _ _ _ us hl => match us, hl with | [_, _, _, _, _], _ => rfl, g_law_is_runs := He.glo_ok X G (c.1.fact 22 (f := .glo "_law_is_runs") rfl),
    f_law_papers_right := _, fd_law_papers_right := p23.choose, F_law_papers_right := p23.choose_spec, b_law_papers_right := p23.choose_spec.bindsN fun _ _ _ _ _ _ us hl => match us, hl with | [_, _, _, _, _], _ => rfl, g_law_papers_right := He.glo_ok X G (c.1.fact 23 (f := .glo "_law_papers_right") rfl),
    f_law_caught := _, fd_law_caught := p24.choose, F_law_caught := p24.choose_spec, b_law_caught := p24.choose_spec.bindsN fun _ _ _ _ _ _ us hl => match us, hl with | [_, _, _, _, _], _ => rfl, g_law_caught := He.glo_ok X G (c.1.fact 24 (f := .glo "_law_caught") rfl),
    f_law_refused := _, fd_law_refused := p25.choose, F_law_refused := p25.choose_spec, b_law_refused := p25.choose_spec.bindsN fun _ _ _ _ _ _ us hl => match us, hl with | [], _ => rfl, g_law_refused := He.glo_ok X G (c.1.fact 25 (f := .glo "_law_refused") rfl),
    f_law := _, fd_law := p26.choose, F_law := p26.choose_spec, b_law := p26.choose_spec.bindsN fun _ _ _ _ _ _ us hl => match us, hl with | [_], _ => rfl, g_law := He.glo_ok X G (c.1.fact 26 (f := .glo "law") rfl),
    n_len := He.free_ok X G (c.1.fact 27 (f := .free "len") rfl),
    n_sum := He.free_ok X G (c.1.fact 28 (f := .free "sum") rfl),
    n_max := He.free_ok X G (c.1.fact 29 (f := .free "max") rfl),
    n_min := He.free_ok X G (c.1.fact 30 (f := .free "min") rfl),
    n_int := He.free_ok X G (c.1.fact 31 (f := .free "int") rfl),
    n_bool := He.free_ok X G (c.1.fact 32 (f := .free "bool") rfl),
    n_list := He.free_ok X G (c.1.fact 33 (f := .free "list") rfl),
    n_tuple := He.free_ok X G (c.1.fact 34 (f := .free "tuple") rfl),
    n_str := He.free_ok X G (c.1.fact 35 (f := .free "str") rfl),
    n_range := He.free_ok X G (c.1.fact 36 (f := .free "range") rfl),
    n_isinstance := He.free_ok X G (c.1.fact 37 (f := .free "isinstance") rfl),
    n_enumerate := He.free_ok X G (c.1.fact 38 (f := .free "enumerate") rfl),
    n_zip := He.free_ok X G (c.1.fact 39 (f := .free "zip") rfl),
    n_sorted := He.free_ok X G (c.1.fact 40 (f := .free "sorted") rfl),
    n_repr := He.free_ok X G (c.1.fact 41 (f := .free "repr") rfl),
    n_super := He.free_ok X G (c.1.fact 42 (f := .free "super") rfl),
    t_MOST_STARTS := q0.choose, m_MOST_STARTS := q0.choose_spec }
theorem G_InvalidStarts___init__ {P : Program} {w : World} {K : PySem.W.Frag} {mg : Str → Option Value} {base : Heap} {CX : CXT} [Sup.PF P fileS] (T : Top K mg) : FnOk P w K mg base CX 1 T.fi_InvalidStarts T.fd_InvalidStarts ["self", "value"] (Sup.sp_exc_init T.C_InvalidStarts) := Sup.fn_sup nsc_InvalidStarts (by decide +kernel) sb_InvalidStarts T.er_InvalidStarts.sup T.n_super
theorem G_InvalidNumber___init__ {P : Program} {w : World} {K : PySem.W.Frag} {mg : Str → Option Value} {base : Heap} {CX : CXT} [Sup.PF P fileS] (T : Top K mg) : FnOk P w K mg base CX 1 T.fi_InvalidNumber T.fd_InvalidNumber ["self", "value"] (Sup.sp_exc_init T.C_InvalidNumber) := Sup.fn_sup nsc_InvalidNumber (by decide +kernel) sb_InvalidNumber T.er_InvalidNumber.sup T.n_super
end My

namespace My
open PySem PySem.Spec PyProof.Rows L2
/-! ### f(k = v, ..), nothing by position -/
theorem FunD.kbindsN {K : PySem.W.Frag} {x qual : Str} {params : Arguments} {body : List Stmt} {scope : Scope} {f : Addr} {fd : FuncData} {ps : List Str} (F : FunD K x qual params body scope [] [] f fd) (ks : List Str) (g : {α : Type} → List α → List α)
    (hrel : ∀ {zs : List V} {ws : List Value}, Vals zs ws → Vals (g zs) (g ws))
    (h : ∀ (kV doc pm : Value) (an : Option Addr) (cdv ct : Value) (ws : List Value), ws.length = ks.length → bindArgs (PySem.W.fnOf x qual params body scope .none kV doc pm an cdv ct) ⟨[], ks.zip ws⟩ = pure (ps.zip (g ws))) :
    KBn K fd ps 0 ks (fun _ ws => g ws) (fun _ zs => g zs) := by
  obtain ⟨oc, od, dV, kV, doc, pm, an, cdv, ct, osl, rfl, lk, hcd, hD, hK⟩ := F.ex
  rcases hD with ⟨_, rfl⟩ | ⟨e, _⟩
  · refine ⟨fun s us ws X l1 l2 => ?_, fun _ r => hrel r⟩
    obtain rfl : us = [] := List.eq_nil_of_length_eq_zero l1
    exact .of_eq (h kV doc pm an cdv ct ws l2)
  · exact absurd rfl e
/-- two, the other way round -/
def sw2 {α : Type} : List α → List α
  | [a, b] => [b, a]
  | l => l
theorem sw2_rel {zs : List V} {ws : List Value} (h : Vals zs ws) : Vals (sw2 zs) (sw2 ws) := by
  cases h with
  | nil => exact .nil
  | cons r1 h => cases h with
    | nil => exact .cons r1 .nil
    | cons r2 h => cases h with
      | nil => exact .cons r2 (.cons r1 .nil)
      | cons r3 h => exact .cons r1 (.cons r2 (.cons r3 h))
/-- any number of them, back to front -/
theorem Vals_rev {zs : List V} {ws : List Value} (h : Vals zs ws) : Vals zs.reverse ws.reverse := by
  induction h with
  | nil => exact .nil
  | cons r h ih =>
    rw [List.reverse_cons, List.reverse_cons]
    exact Vals.append ih (.cons r .nil)
def tCallKO (m : Nat) (sp : Sp) (gV : List V → List V → List V) (E : XK) (tk : TA) : TE := fun σ H Q => tk σ H fun zs H2 => zs.length = m ∧ sp (gV [] zs) H2 Q E
section
variable {X : Cx} {CX : CXT} {k : Nat} {f : Addr} {fd : FuncData} {ps ks : List Str} {sp : Sp} {E : XK} {x : Str} {p pos : Pos} {kws : List Keyword} {tk : TA} {g : List Value → List Value → List Value} {gV : List V → List V → List V}
theorem pe_callKO (F : FnOk X.prog X.w X.K X.mg X.base CX k f fd ps sp) (hr : Room k X.A) (hg : Gl X x) (hm : X.mg x = some (.ref f)) (hk : PySem.W.keepIn X.K (.ref f) = true) (hb : KBn X.K fd ps 0 ks g gV) (hx : Passes CX X E)
    (hkw : PK X kws tk) (hall : (backToKw pos (keywordEach kws X.env)).all (·.1.isSome) = true := by rfl) (hks : (backToKw pos (keywordEach kws X.env)).filterMap (·.1) = ks := by rfl)
    (hdb : (x == ("__debug__" : Str)) = false := by decide)
    (hpl : ((backTo pos (starEach [] X.env)).any (·.1) || (backToKw pos (keywordEach kws X.env)).any (·.1.isNone)) = false := by rfl) :
    PE X (.Call (.Name x p) [] kws pos) (tCallKO ks.length sp gV E tk) := by
  refine ⟨fun pins s σ H Q I h => ?_⟩
  refine wpAny_Call_Name_kw (ld_glob I hg hm ?_ hdb)
  refine PySem.W.callWith_KW0 (h₀ := X.base) I.ok.mod.kin hk hall (thn (hkw.run pos pins s σ H _ I h) fun ws s2 ⟨zs, H2, I2, rz, l2, q2⟩ => ⟨I2.kIn, ?_⟩) hpl
  rw [hks]
  exact run_fnN (us := []) (vs := []) F hr hb hx I2 .nil rz rfl l2 q2
end
end My

set_option exponentiation.threshold 100000
namespace My
open PySem PySem.Spec PyProof.Rows L2 Pre
section
variable {P : Program} {w : World} {K : PySem.W.Frag} {mg : Str → Option Value} {base : Heap}
/-! ### the law's draws -/
/-- a generator: its count is at most n -/
def GenAt (H : Hp) (g : Addr) (n : Nat) : Prop := ∃ x y z : Int, H g = some (.lst [.int x, .int y, .int z]) ∧ 0 ≤ z ∧ z ≤ (n : Int)
/-- all but one thing stand as they stood -/
def But (g : Addr) (H H' : Hp) : Prop := ∀ b o, b ≠ g → H b = some o → H' b = some o
theorem But.refl {g : Addr} {H : Hp} : But g H H := fun _ _ _ h => h
theorem But.trans {g : Addr} {H H1 H2 : Hp} (a : But g H H1) (b : But g H1 H2) : But g H H2 := fun c o n h => b c o n (a c o n h)
theorem But.same {g : Addr} {H H1 H2 : Hp} (a : But g H H1) (b : Same H1 H2) : But g H H2 := fun c o n h => b c o (a c o n h)
theorem But.of {g : Addr} {H H1 : Hp} (b : Same H H1) : But g H H1 := fun c o _ h => b c o h
theorem But.upd {g : Addr} {H H1 : Hp} {o : HO} (a : But g H H1) : But g H (upd H1 g o) := fun c u n h => by
  rw [upd_ne n]
  exact a c u n h
theorem But.free {g : Addr} {H H1 : Hp} (a : But g H H1) {p : Addr} (n : p ≠ g) (h : H1 p = none) : H p = none := by
  cases e : H p with
  | none => rfl
  | some o => rw [a p o n e] at h; cases h
/-- what is changed was not there at first -/
theorem But.fresh {g : Addr} {H H1 H2 : Hp} (s : Same H H1) (n : H g = none) (b : But g H1 H2) : Same H H2 := fun c o h => b c o (ne_of_none h n) (s c o h)
theorem GenAt.mono {H : Hp} {g : Addr} {n m : Nat} (h : GenAt H g n) (l : n ≤ m) : GenAt H g m := by
  obtain ⟨x, y, z, a, b, c⟩ := h
  exact ⟨x, y, z, a, b, by omega⟩
theorem GenAt.same {H H' : Hp} {g : Addr} {n : Nat} (h : GenAt H g n) (s : Same H H') : GenAt H' g n := by
  obtain ⟨x, y, z, a, b⟩ := h
  exact ⟨x, y, z, s _ _ a, b⟩
theorem GenAt.ne {H : Hp} {g : Addr} {n : Nat} {p : Addr} (h : GenAt H g n) (np : H p = none) : p ≠ g := by
  obtain ⟨x, y, z, a, _⟩ := h
  exact (ne_of_none a np).symm
theorem small_2900 {b : Int} (h : b ≤ 2 ^ 60) : b < 2 ^ 2900 := by omega
theorem pow_pos' (w : Nat) : (0 : Int) < 2 ^ w := Int.pow_pos (by decide)
theorem pow2_le {k m : Nat} (h : k ≤ m) : (2 : Int) ^ k ≤ 2 ^ m := by
  have e := Nat.pow_le_pow_right (show 0 < 2 by decide) h
  have e2 : ((2 ^ k : Nat) : Int) ≤ ((2 ^ m : Nat) : Int) := Int.ofNat_le.mpr e
  rw [Int.natCast_pow, Int.natCast_pow] at e2
  exact e2
def sp_law_cell (K : PySem.W.Frag) : Sp := fun vs H Q _ => ∃ (a : Addr) (ns : List Int) (i : Nat), vs = [.ref a, .int i] ∧ SqL K H a (ns.map V.int) ∧ ∀ (n : Int) H', Same H H' → Q (.int n) H'
theorem cmul_mod (x m j : Int) (h0 : 0 < m) (h1 : m ≤ 2 ^ 60) : CMul (x % m) j := by
  have a := Int.emod_nonneg x (show m ≠ 0 by omega)
  have b := Int.emod_lt_of_pos x h0
  exact .inl ⟨by omega, by omega⟩
def sp_law_hash : Sp := fun vs H Q _ => ∃ i j : Int, vs = [.int i, .int j] ∧ 0 ≤ j ∧ j < 2 ^ 60 ∧ ∀ n : Int, Q (.int n) H

def sp_law_generator (K : PySem.W.Frag) : Sp := fun vs H Q _ => ∃ (a : Addr) (ns : List Int) (i : Nat), vs = [.ref a, .int i] ∧ SqL K H a (ns.map V.int) ∧ ∀ H' g, Same H H' → H g = none → GenAt H' g (1000 * i) → Q (.ref g) H'
def sp_law_random : Sp := fun vs H Q _ => ∃ (g : Addr) (b : Int) (n : Nat), vs = [.ref g, .int b] ∧ GenAt H g n ∧ n ≤ 10 ^ 12 ∧ 0 < b ∧ b < 2 ^ 2900 ∧ ∀ (d : Int) H', 0 ≤ d → d < b → GenAt H' g (n + 100) → But g H H' → Q (.int d) H'
/-- a comprehension over a range that draws whole numbers -/
theorem lc_drawR {lo : Int} {n : Nat} {j : Nat} {te : TE} {vs : List Nat} {σ : L2.St} {H1 : Hp} {D : Addr} {Qd : Hp → Prop} (g : Addr) (m step : Nat) (P : Int → Prop) (nD : H1 D = none) (hG : GenAt H1 g m) (hz : n < sizeLine)
    (hw : ∀ x, wipe ((wipe σ vs).set j (some x)) vs = wipe σ vs)
    (hs : ∀ (i : Nat) (H' : Hp), i < n → But g H1 H' → GenAt H' g (m + step * i) → ∀ Qt : V → Hp → Prop, (∀ (y : Int) H'', P y → But g H' H'' → GenAt H'' g (m + step * (i + 1)) → Qt (.int y) H'') → te ((wipe σ vs).set j (some (.int (lo + (i : Int))))) H' Qt)
    (hd : ∀ H' (ys : List Int), But g H1 H' → GenAt H' g (m + step * n) → H' D = some (.lst (ys.map V.int)) → ys.length = n → (∀ y ∈ ys, P y) → Qd H') :
    ∃ W : Nat → Nat → Hp → Prop, (∃ m, W 0 m (upd H1 D (.lst []))) ∧ ∀ i m H, W i m H →
      ((Itr lo n).stop i H ∧ Qd H) ∨ ((Itr lo n).go i H ∧ ∃ Nx : Hp → Prop, (∀ H', Nx H' → ∃ m', m' < m ∧ W (i + 1) m' H') ∧ ∀ x H', (Itr lo n).yld i H x H' → gName j x (wipe σ vs) H' fun σ2 H2 => wipe σ2 vs = wipe σ vs ∧ tYes σ2 H2 fun b H3 =>
        if b = true then te σ2 H3 fun y H4 => ∃ acc, H4 D = some (.lst acc) ∧ acc.length < sizeLine ∧ Nx (upd H4 D (.lst (acc ++ [y]))) else Nx H3) := by
  have nDg : D ≠ g := hG.ne nD
  refine lc_range (lo := lo) (n := n) (fun i H => ∃ ys : List Int, But g H1 H ∧ GenAt H g (m + step * i) ∧ H D = some (.lst (ys.map V.int)) ∧ ys.length = i ∧ ∀ y ∈ ys, P y)
    ⟨[], But.of (same_upd nD), hG.same (same_upd nD), upd_same, rfl, (fun _ h => nomatch h)⟩ ?_ ?_
  · rintro i H hi ⟨ys, b, hg, hD, hl, hP⟩
    refine ⟨hw _, ?_⟩
    unfold tYes
    dsimp only
    rw [if_pos (show true = true from rfl)]
    refine hs i H hi b hg _ fun y H2 py b2 hg2 => ?_
    refine ⟨_, b2 _ _ nDg hD, by rw [List.length_map]; omega, ys ++ [y], ?_, ?_, ?_, ?_, ?_⟩
    · intro c o nc hc
      rw [upd_ne (ne_of_none hc nD)]
      exact b2 _ _ nc (b _ _ nc hc)
    · obtain ⟨x1, x2, x3, e1, e2⟩ := hg2
      exact ⟨x1, x2, x3, by rw [upd_ne nDg.symm]; exact e1, e2⟩
    · rw [upd_same, List.map_append]
      rfl
    · rw [List.length_append, hl]
      rfl
    · intro z hz
      rcases List.mem_append.mp hz with hz | hz
      · exact hP z hz
      · rw [List.mem_singleton.mp hz]
        exact py
  · rintro H ⟨ys, b, hg, hD, hl, hP⟩
    exact hd H ys b hg hD hl hP
end
end My

namespace My
open PySem PySem.Spec PyProof.Rows L2 Pre
/-- a comprehension over a list that makes new things: R tells what is known of the i-th -/
theorem lc_relL {K : PySem.W.Frag} {a : Addr} {xs : List V} {j : Nat} {te : TE} {vs : List Nat} {σ : L2.St} {H1 : Hp} {D : Addr} {Qd : Hp → Prop} (R : Nat → V → Hp → Prop) (nD : H1 D = none) (hS : SqL K H1 a xs) (hz : xs.length < sizeLine)
    (mono : ∀ (i : Nat) (y : V) (H H' : Hp), Pre.Off D H H' → R i y H → R i y H') (hw : ∀ x, wipe ((wipe σ vs).set j (some x)) vs = wipe σ vs)
    (hs : ∀ (i : Nat) (x : V) (H' : Hp) (zs : List V), xs[i]? = some x → Same H1 H' → H' D = some (.lst zs) → ∀ Qt : V → Hp → Prop, (∀ y H'', Same H' H'' → R i y H'' → Qt y H'') → te ((wipe σ vs).set j (some x)) H' Qt)
    (hd : ∀ H' ys, Same H1 H' → H' D = some (.lst ys) → ys.length = xs.length → (∀ (i : Nat) (y : V), ys[i]? = some y → R i y H') → Qd H') :
    ∃ W : Nat → Nat → Hp → Prop, (∃ m, W 0 m (upd H1 D (.lst []))) ∧ ∀ i m H, W i m H →
      ((Itl K a).stop i H ∧ Qd H) ∨ ((Itl K a).go i H ∧ ∃ Nx : Hp → Prop, (∀ H', Nx H' → ∃ m', m' < m ∧ W (i + 1) m' H') ∧ ∀ x H', (Itl K a).yld i H x H' → gName j x (wipe σ vs) H' fun σ2 H2 => wipe σ2 vs = wipe σ vs ∧ tYes σ2 H2 fun b H3 =>
        if b = true then te σ2 H3 fun y H4 => ∃ acc, H4 D = some (.lst acc) ∧ acc.length < sizeLine ∧ Nx (upd H4 D (.lst (acc ++ [y]))) else Nx H3) := by
  refine lc_list (K := K) (a := a) (xs := xs) (RelPv R H1 D) ⟨[], same_upd nD, upd_same, rfl, fun k y h => by simp at h⟩ (fun i H _ ⟨_, s, _⟩ => s.seq hS) ?_ ?_
  · rintro i x H hx ⟨ys, s, hD, hl, hR⟩
    have hi : i < xs.length := (List.getElem?_eq_some_iff.mp hx).1
    refine ⟨hw _, ?_⟩
    unfold tYes
    dsimp only
    rw [if_pos (show true = true from rfl)]
    refine hs i x H ys hx s hD _ fun y H4 s4 r4 => ?_
    refine ⟨ys, s4 _ _ hD, by omega, ys ++ [y], same_over nD (s.trans s4), upd_same, by rw [List.length_append, hl]; rfl, fun k z hz => ?_⟩
    have off : Pre.Off D H4 (upd H4 D (.lst (ys ++ [y]))) := fun b o nb h => by rw [upd_ne nb]; exact h
    by_cases hk : k < ys.length
    · rw [List.getElem?_append_left hk] at hz
      exact mono k z H _ (fun b o nb h => off b o nb (s4 b o h)) (hR k z hz)
    · rw [List.getElem?_append_right (by omega)] at hz
      have hk2 : k - ys.length = 0 := by
        have h2 := (List.getElem?_eq_some_iff.mp hz).1
        rw [List.length_singleton] at h2
        omega
      rw [hk2] at hz
      cases hz
      have ek : k = i := by omega
      rw [ek]
      exact mono i y H4 _ off r4
  · rintro H ⟨ys, s, hD, hl, hR⟩
    exact hd H ys s hD hl hR
/-- a list of lists of whole numbers -/
def RowsIn (H : Hp) (p : Addr) (rows : List (List Int)) : Prop := ∃ as : List Addr, H p = some (.lst (as.map V.ref)) ∧ as.length = rows.length ∧ ∀ (i : Nat) (a : Addr) (r : List Int), as[i]? = some a → rows[i]? = some r → H a = some (.lst (r.map V.int))
theorem RowsIn.same {H H' : Hp} {p : Addr} {rows : List (List Int)} (h : RowsIn H p rows) (s : Same H H') : RowsIn H' p rows := by
  obtain ⟨as, h1, h2, h3⟩ := h
  exact ⟨as, s _ _ h1, h2, fun i a r ha hr => s _ _ (h3 i a r ha hr)⟩
section
variable {X : Cx}
theorem huD {k : Nat} {A : Around} (r : Room k A) : A.units + 65 < cLine := by have := r.un; omega
theorem k_inD (K : PySem.W.Frag) (h : X.K = K) (hu : X.A.units + 65 < cLine) : OpR X (compareOp .In) (rInD K) := by subst h; exact op_inD hu
theorem k_notInD (K : PySem.W.Frag) (h : X.K = K) (hu : X.A.units + 65 < cLine) : OpR X (compareOp .NotIn) (rNotInD K) := by subst h; exact op_notInD hu
theorem k_indexD (K : PySem.W.Frag) (h : X.K = K) (hu : X.A.units + 65 < cLine) : MtR X "list.index" (rIndexD K) := by subst h; exact mt_indexD hu
end
/-- rows as data -/
def rowD (r : List Int) : PyData := .list (r.map PyData.int)
theorem rows_dp {K : PySem.W.Frag} {H : Hp} : ∀ {as : List Addr} {rows : List (List Int)}, as.length = rows.length → (∀ (i : Nat) (a : Addr) (r : List Int), as[i]? = some a → rows[i]? = some r → H a = some (.lst (r.map V.int))) → DpAll K H (as.map V.ref) (rows.map rowD)
  | [], [], _, _ => .nil
  | [], _ :: _, h, _ => by simp at h
  | _ :: _, [], h, _ => by simp at h
  | a :: as, r :: rows, h, k => .cons (.lst (.inl (.inl (k 0 a r rfl rfl))) (Pre.dp_ints r)) (rows_dp (by simpa using h) fun i t q ht hq => k (i + 1) t q (by simpa using ht) (by simpa using hq))
theorem rowD_eqv (r q : List Int) : PyData.eqv (rowD r) (rowD q) = decide (r = q) := by
  unfold rowD
  rw [PyData.eqv, eqv_ints]
theorem rows_shaped (rows : List (List Int)) : SeqAt.shaped (.list (rows.map rowD)) = true := by
  have h1 : ∀ l : List (List Int), PyData.canLayAll0 (l.map rowD) = true := fun l => by
    induction l with
    | nil => rfl
    | cons r l ih =>
      show (PyData.canLay0 (rowD r) && PyData.canLayAll0 (l.map rowD)) = true
      rw [ih]
      unfold rowD
      rw [PyData.canLay0, lay_ints]
      rfl
  have h2 : ∀ l : List (List Int), PyData.depthAll (l.map rowD) ≤ 1 := fun l => by
    induction l with
    | nil => simp [PyData.depthAll]
    | cons r l ih =>
      show PyData.depthAll (rowD r :: l.map rowD) ≤ 1
      rw [PyData.depthAll]
      unfold rowD at *
      rw [PyData.depth, depth_ints]
      omega
  show (PyData.canLay0 (.list (rows.map rowD)) && decide (PyData.depth (.list (rows.map rowD)) ≤ 64)) = true
  rw [Bool.and_eq_true]
  have := h2 rows
  exact ⟨by rw [PyData.canLay0]; exact h1 rows, decide_eq_true (by rw [PyData.depth]; omega)⟩
end My

namespace My
open PySem PySem.Spec PyProof.Rows L2 Pre
/-! ### min and max of a list of pairs of whole numbers -/
def pairD (p : Int × Int) : PyData := .tuple [.int p.1, .int p.2]
def ltP2 (p q : Int × Int) : Prop := p.1 < q.1 ∨ (p.1 = q.1 ∧ p.2 < q.2)
instance (p q : Int × Int) : Decidable (ltP2 p q) := by unfold ltP2; infer_instance
theorem pair_lt (p q : Int × Int) : PySem.W.dataLt (pairD p) (pairD q) = decide (ltP2 p q) := PySem.W.dataLt_ii p.1 p.2 q.1 q.2
theorem ltP2_trans {p q r : Int × Int} (h : ¬ ltP2 q p) (k : ¬ ltP2 r q) : ¬ ltP2 r p := by
  unfold ltP2 at *
  omega
def minP (p : Int × Int) (ps : List (Int × Int)) : Int × Int := ps.foldl (fun a y => if ltP2 y a then y else a) p
def maxP (p : Int × Int) (ps : List (Int × Int)) : Int × Int := ps.foldl (fun a y => if ltP2 a y then y else a) p
theorem minP_data : ∀ (ps : List (Int × Int)) (p : Int × Int), PySem.W.minD (pairD p) (ps.map pairD) = pairD (minP p ps)
  | [], _ => rfl
  | q :: ps, p => by
    show PySem.W.minD (if PySem.W.dataLt (pairD q) (pairD p) = true then pairD q else pairD p) (ps.map pairD) = pairD (minP (if ltP2 q p then q else p) ps)
    rw [pair_lt]
    by_cases h : ltP2 q p
    · rw [decide_eq_true h, if_pos rfl, if_pos h, minP_data ps q]
    · rw [decide_eq_false h, if_neg (by decide), if_neg h, minP_data ps p]
theorem maxP_data : ∀ (ps : List (Int × Int)) (p : Int × Int), PySem.W.maxD (pairD p) (ps.map pairD) = pairD (maxP p ps)
  | [], _ => rfl
  | q :: ps, p => by
    show PySem.W.maxD (if PySem.W.dataLt (pairD p) (pairD q) = true then pairD q else pairD p) (ps.map pairD) = pairD (maxP (if ltP2 p q then q else p) ps)
    rw [pair_lt]
    by_cases h : ltP2 p q
    · rw [decide_eq_true h, if_pos rfl, if_pos h, maxP_data ps q]
    · rw [decide_eq_false h, if_neg (by decide), if_neg h, maxP_data ps p]
theorem minP_spec : ∀ (ps : List (Int × Int)) (p : Int × Int), minP p ps ∈ p :: ps ∧ ∀ q ∈ p :: ps, ¬ ltP2 q (minP p ps)
  | [], p => ⟨List.mem_cons_self, fun q hq => by
      rw [List.mem_singleton.mp hq]
      show ¬ ltP2 p p
      unfold ltP2
      omega⟩
  | r :: ps, p => by
    show minP (if ltP2 r p then r else p) ps ∈ _ ∧ ∀ q ∈ p :: r :: ps, ¬ ltP2 q (minP (if ltP2 r p then r else p) ps)
    by_cases h : ltP2 r p
    · rw [if_pos h]
      obtain ⟨h1, h2⟩ := minP_spec ps r
      refine ⟨List.mem_cons_of_mem _ h1, fun q hq => ?_⟩
      rcases List.mem_cons.mp hq with rfl | hq
      · have := h2 r List.mem_cons_self
        exact fun z => this (by unfold ltP2 at *; omega)
      · exact h2 q hq
    · rw [if_neg h]
      obtain ⟨h1, h2⟩ := minP_spec ps p
      refine ⟨?_, fun q hq => ?_⟩
      · rcases List.mem_cons.mp h1 with e | e
        · rw [e]; exact List.mem_cons_self
        · exact List.mem_cons_of_mem _ (List.mem_cons_of_mem _ e)
      · rcases List.mem_cons.mp hq with rfl | hq
        · exact h2 q List.mem_cons_self
        · rcases List.mem_cons.mp hq with rfl | hq
          · have := h2 p List.mem_cons_self
            exact fun z => this (by unfold ltP2 at *; omega)
          · exact h2 q (List.mem_cons_of_mem _ hq)
theorem maxP_spec : ∀ (ps : List (Int × Int)) (p : Int × Int), maxP p ps ∈ p :: ps ∧ ∀ q ∈ p :: ps, ¬ ltP2 (maxP p ps) q
  | [], p => ⟨List.mem_cons_self, fun q hq => by
      rw [List.mem_singleton.mp hq]
      show ¬ ltP2 p p
      unfold ltP2
      omega⟩
  | r :: ps, p => by
    show maxP (if ltP2 p r then r else p) ps ∈ _ ∧ ∀ q ∈ p :: r :: ps, ¬ ltP2 (maxP (if ltP2 p r then r else p) ps) q
    by_cases h : ltP2 p r
    · rw [if_pos h]
      obtain ⟨h1, h2⟩ := maxP_spec ps r
      refine ⟨List.mem_cons_of_mem _ h1, fun q hq => ?_⟩
      rcases List.mem_cons.mp hq with rfl | hq
      · have := h2 r List.mem_cons_self
        exact fun z => this (by unfold ltP2 at *; omega)
      · exact h2 q hq
    · rw [if_neg h]
      obtain ⟨h1, h2⟩ := maxP_spec ps p
      refine ⟨?_, fun q hq => ?_⟩
      · rcases List.mem_cons.mp h1 with e | e
        · rw [e]; exact List.mem_cons_self
        · exact List.mem_cons_of_mem _ (List.mem_cons_of_mem _ e)
      · rcases List.mem_cons.mp hq with rfl | hq
        · exact h2 q List.mem_cons_self
        · rcases List.mem_cons.mp hq with rfl | hq
          · have := h2 p List.mem_cons_self
            exact fun z => this (by unfold ltP2 at *; omega)
          · exact h2 q (List.mem_cons_of_mem _ hq)
theorem pairs_alike (ps : List (Int × Int)) : PySem.W.AlikeAll (ps.map pairD) := by
  refine ⟨fun x hx y hy => ?_, fun x hx => ?_⟩
  · obtain ⟨p, _, rfl⟩ := List.mem_map.mp hx
    obtain ⟨q, _, rfl⟩ := List.mem_map.mp hy
    rfl
  · obtain ⟨p, _, rfl⟩ := List.mem_map.mp hx
    exact fun z => nomatch z
theorem pairs_lay : ∀ ps : List (Int × Int), PyData.canLayAll0 (ps.map pairD) = true
  | [] => rfl
  | p :: ps => by simp [PyData.canLayAll0, PyData.canLay0, pairD, pairs_lay ps]
theorem pairs_depth : ∀ ps : List (Int × Int), PyData.depthAll (ps.map pairD) ≤ 2
  | [] => by simp [PyData.depthAll]
  | p :: ps => by
    have := pairs_depth ps
    simp only [List.map_cons, PyData.depthAll, pairD, PyData.depth]
    omega
/-- a list of pairs, at a -/
def PairsAt (K : PySem.W.Frag) (H : Hp) (a : Addr) (ps : List (Int × Int)) : Prop := ∃ as : List Addr, SqL K H a (as.map V.ref) ∧ as.length = ps.length ∧ ∀ (i : Nat) (t : Addr) (p : Int × Int), as[i]? = some t → ps[i]? = some p → SqT K H t [.int p.1, .int p.2]
theorem pairs_dp {K : PySem.W.Frag} {H : Hp} : ∀ {as : List Addr} {ps : List (Int × Int)}, as.length = ps.length → (∀ (i : Nat) (t : Addr) (p : Int × Int), as[i]? = some t → ps[i]? = some p → SqT K H t [.int p.1, .int p.2]) → DpAll K H (as.map V.ref) (ps.map pairD)
  | [], [], _, _ => .nil
  | [], _ :: _, h, _ => by simp at h
  | _ :: _, [], h, _ => by simp at h
  | a :: as, p :: ps, h, k => .cons (.tup (k 0 a p rfl rfl) (.cons (.int _) (.cons (.int _) .nil))) (pairs_dp (by simpa using h) fun i t q ht hq => k (i + 1) t q (by simpa using ht) (by simpa using hq))
def rMnP (K : PySem.W.Frag) (best : Int × Int → List (Int × Int) → Int × Int) : List V → Hp → VK → Prop := fun xs H Q => ∃ (a : Addr) (p : Int × Int) (ps : List (Int × Int)), xs = [.ref a] ∧ PairsAt K H a (p :: ps) ∧ ∀ t, SqT K H t [.int (best p ps).1, .int (best p ps).2] → Q (.ref t) H
section
variable {X : Cx} {K : PySem.W.Frag}
theorem pick {H : Hp} {s : Shared} {as : List Addr} {ps : List (Int × Int)} {its : List Value} {i : Nat} {v : Value} {h' : Heap} {bs cs : List Addr} {b : Int × Int} (hl : as.length = ps.length)
    (hT : ∀ (i : Nat) (t : Addr) (p : Int × Int), as[i]? = some t → ps[i]? = some p → SqT K H t [.int p.1, .int p.2]) (rv : Vals (as.map V.ref) its) (hr : ReadsAll s.heap its (ps.map pairD) cs) (hv : its.toArray[i]? = some v) (rd : Reads h' v (pairD b) bs)
    (hk : ∀ b o, s.heap.get? b = some o → h'.get? b = some o) : ∃ t, v = .ref t ∧ SqT K H t [.int b.1, .int b.2] := by
  have hv' : its[i]? = some v := by simpa using hv
  have hil : i < its.length := (List.getElem?_eq_some_iff.mp hv').1
  have hvl := rv.length
  rw [List.length_map] at hvl
  obtain ⟨u, hu, ru⟩ := rv.get (show (as.map V.ref)[i]? = some (.ref (as[i]'(by omega))) by rw [List.getElem?_map, List.getElem?_eq_getElem (by omega)]; rfl)
  rw [hv'] at hu
  cases hu
  have hp : ps[i]? = some (ps[i]'(by omega)) := List.getElem?_eq_getElem (by omega)
  obtain ⟨ds, r1, _, _, _⟩ := PySem.W.readsAll_at hr i v hv'
  have e1 : (ps.map pairD).getD i .none = pairD (ps[i]'(by omega)) := by
    rw [List.getD_eq_getElem?_getD, List.getElem?_map, hp]
    rfl
  rw [e1] at r1
  have e2 := PySem.SeqAt.Reads.unique (pairD b) _ v _ _ (by simp [pairD, PyData.canLay0, PyData.canLayAll0]) rd (Reads.keeps hk r1)
  have e3 : b = ps[i]'(by omega) := by
    unfold pairD at e2
    injection e2 with e2
    injection e2 with e4 e5
    injection e5 with e5 _
    injection e4 with e4
    injection e5 with e5
    exact Prod.ext e4 e5
  refine ⟨as[i]'(by omega), ru, ?_⟩
  rw [e3]
  exact hT i _ _ (List.getElem?_eq_getElem (by omega)) hp
theorem k_minP (K : PySem.W.Frag) (h : X.K = K) (hc : X.calm = true) (hu : X.A.units + 65 < cLine) : CallR X (.builtin "min") (rMnP K minP) := by
  subst h
  intro pins s σ H xs us Q I r h
  obtain ⟨a, p, ps, rfl, ⟨as, hS, hl, hT⟩, q⟩ := h
  obtain ⟨its, rv, hL, _⟩ := I.list hS
  rw [Vals.ref1 r]
  obtain ⟨cs, hr⟩ := Dp.readsAll I _ _ its (pairs_dp hl hT) rv
  have hd := pairs_depth (p :: ps)
  refine PySem.W.min_list_data (I.ok.hd hc) hL.isList (show ReadsAll s.heap its.toArray.toList (pairD p :: ps.map pairD) cs by simpa using hr) (pairs_alike (p :: ps)) (by rw [List.map_cons] at hd; omega) fun i v h' tk bs hv rd hk => ?_
  rw [minP_data] at rd
  obtain ⟨t, rfl, ht⟩ := pick hl hT rv hr hv rd hk
  exact ⟨.ref t, H, I.kept hk, rfl, q t ht⟩
theorem k_maxP (K : PySem.W.Frag) (h : X.K = K) (hc : X.calm = true) (hu : X.A.units + 65 < cLine) : CallR X (.builtin "max") (rMnP K maxP) := by
  subst h
  intro pins s σ H xs us Q I r h
  obtain ⟨a, p, ps, rfl, ⟨as, hS, hl, hT⟩, q⟩ := h
  obtain ⟨its, rv, hL, _⟩ := I.list hS
  rw [Vals.ref1 r]
  obtain ⟨cs, hr⟩ := Dp.readsAll I _ _ its (pairs_dp hl hT) rv
  have hd := pairs_depth (p :: ps)
  refine PySem.W.max_list_data (I.ok.hd hc) hL.isList (show ReadsAll s.heap its.toArray.toList (pairD p :: ps.map pairD) cs by simpa using hr) (pairs_alike (p :: ps)) (by rw [List.map_cons] at hd; omega) fun i v h' tk bs hv rd hk => ?_
  rw [maxP_data] at rd
  obtain ⟨t, rfl, ht⟩ := pick hl hT rv hr hv rd hk
  exact ⟨.ref t, H, I.kept hk, rfl, q t ht⟩
theorem huM {k : Nat} {A : Around} (r : Room k A) : A.units + 65 < cLine := by have := r.un; omega
end
end My

namespace My
open PySem PySem.Spec PyProof.Rows L2 Pre
/-! ### data in a heap: what is told of a value by lists and tuples that stand there (none of them frozen) -/
mutual
inductive Dt (H : Hp) : V → PyData → Prop
  | non : Dt H .non .none
  | bl (b : Bool) : Dt H (.bl b) (.bool b)
  | int (n : Int) : Dt H (.int n) (.int n)
  | str (x : Str) : Dt H (.str x) (.str x)
  | lst {a : Addr} {xs : List V} {ds : List PyData} : H a = some (.lst xs) → DtA H xs ds → Dt H (.ref a) (.list ds)
  | tup {a : Addr} {xs : List V} {ds : List PyData} : H a = some (.tup xs) → DtA H xs ds → Dt H (.ref a) (.tuple ds)
inductive DtA (H : Hp) : List V → List PyData → Prop
  | nil : DtA H [] []
  | cons {v : V} {vs : List V} {d : PyData} {ds : List PyData} : Dt H v d → DtA H vs ds → DtA H (v :: vs) (d :: ds)
end
mutual
theorem Dt.same {H H' : Hp} (s : Same H H') : ∀ {d : PyData} {v : V}, Dt H v d → Dt H' v d
  | .none, _, h => by cases h; exact .non
  | .bool _, _, h => by cases h; exact .bl _
  | .int _, _, h => by cases h; exact .int _
  | .str _, _, h => by cases h; exact .str _
  | .list _, _, h => by cases h with | lst a b => exact .lst (s _ _ a) (DtA.same s b)
  | .tuple _, _, h => by cases h with | tup a b => exact .tup (s _ _ a) (DtA.same s b)
  | .dict _, _, h => nomatch h
theorem DtA.same {H H' : Hp} (s : Same H H') : ∀ {ds : List PyData} {vs : List V}, DtA H vs ds → DtA H' vs ds
  | [], _, h => by cases h; exact .nil
  | _ :: _, _, h => by cases h with | cons a b => exact .cons (Dt.same s a) (DtA.same s b)
end
mutual
theorem Dt.dp {K : PySem.W.Frag} {H : Hp} : ∀ {d : PyData} {v : V}, Dt H v d → Dp K H v d
  | .none, _, h => by cases h; exact .non
  | .bool _, _, h => by cases h; exact .bl _
  | .int _, _, h => by cases h; exact .int _
  | .str _, _, h => by cases h; exact .str _
  | .list _, _, h => by cases h with | lst a b => exact .lst (.inl (.inl a)) (DtA.dp b)
  | .tuple _, _, h => by cases h with | tup a b => exact .tup (.inl (.inl a)) (DtA.dp b)
  | .dict _, _, h => nomatch h
theorem DtA.dp {K : PySem.W.Frag} {H : Hp} : ∀ {ds : List PyData} {vs : List V}, DtA H vs ds → DpAll K H vs ds
  | [], _, h => by cases h; exact .nil
  | _ :: _, _, h => by cases h with | cons a b => exact .cons (Dt.dp a) (DtA.dp b)
end
theorem DtA.len {H : Hp} : ∀ {ds : List PyData} {vs : List V}, DtA H vs ds → vs.length = ds.length
  | [], _, h => by cases h; rfl
  | _ :: _, _, h => by cases h with | cons a b => rw [List.length_cons, List.length_cons, DtA.len b]
theorem DtA.app {H : Hp} : ∀ {ds : List PyData} {vs : List V} {es : List PyData} {us : List V}, DtA H vs ds → DtA H us es → DtA H (vs ++ us) (ds ++ es)
  | [], _, _, _, h, k => by cases h; exact k
  | _ :: _, _, _, _, h, k => by cases h with | cons a b => exact .cons a (DtA.app b k)
theorem DtA.get {H : Hp} : ∀ {ds : List PyData} {vs : List V} {i : Nat} {d : PyData}, DtA H vs ds → ds[i]? = some d → ∃ v, vs[i]? = some v ∧ Dt H v d
  | [], _, _, _, _, k => by simp at k
  | _ :: _, _, 0, _, h, k => by
    cases h with
    | cons a b => rw [List.getElem?_cons_zero] at k; cases k; exact ⟨_, rfl, a⟩
  | _ :: _, _, i + 1, _, h, k => by
    cases h with
    | cons a b => rw [List.getElem?_cons_succ] at k; rw [List.getElem?_cons_succ]; exact DtA.get b k
theorem DtA.got {H : Hp} {ds : List PyData} {vs : List V} {i : Nat} {v : V} (h : DtA H vs ds) (k : vs[i]? = some v) : ∃ d, ds[i]? = some d ∧ Dt H v d := by
  have hi := (List.getElem?_eq_some_iff.mp k).1
  have hl := h.len
  obtain ⟨u, hu, d⟩ := h.get (List.getElem?_eq_getElem (show i < ds.length by omega))
  rw [k] at hu
  cases hu
  exact ⟨_, List.getElem?_eq_getElem (by omega), d⟩
theorem DtA.take {H : Hp} : ∀ {ds : List PyData} {vs : List V} (n : Nat), DtA H vs ds → DtA H (vs.take n) (ds.take n)
  | _, _, 0, _ => .nil
  | [], _, _ + 1, h => by cases h; exact .nil
  | _ :: _, _, n + 1, h => by cases h with | cons a b => exact .cons a (DtA.take n b)
theorem DtA.drop {H : Hp} : ∀ {ds : List PyData} {vs : List V} (n : Nat), DtA H vs ds → DtA H (vs.drop n) (ds.drop n)
  | _, _, 0, h => h
  | [], _, _ + 1, h => by cases h; exact .nil
  | _ :: _, _, n + 1, h => by cases h with | cons a b => exact DtA.drop n b
theorem DtA.rev {H : Hp} : ∀ {ds : List PyData} {vs : List V}, DtA H vs ds → DtA H vs.reverse ds.reverse
  | [], _, h => by cases h; exact .nil
  | _ :: _, _, h => by
    cases h with
    | cons a b => rw [List.reverse_cons, List.reverse_cons]; exact DtA.app (DtA.rev b) (.cons a .nil)
theorem DtA.ints {H : Hp} : ∀ ns : List Int, DtA H (ns.map V.int) (ns.map PyData.int)
  | [] => .nil
  | n :: r => .cons (.int n) (DtA.ints r)
theorem DtA.intsE {H : Hp} : ∀ {ns : List Int} {vs : List V}, DtA H vs (ns.map PyData.int) → vs = ns.map V.int
  | [], _, h => by cases h; rfl
  | n :: r, _, h => by
    cases h with
    | cons a b => cases a; rw [DtA.intsE b]; rfl
/-- a list of whole numbers -/
theorem Dt.ints {H : Hp} {a : Addr} {ns : List Int} (h : H a = some (.lst (ns.map V.int))) : Dt H (.ref a) (rowD ns) := .lst h (DtA.ints ns)
theorem Dt.intsE {H : Hp} {v : V} {ns : List Int} (h : Dt H v (rowD ns)) : ∃ a, v = .ref a ∧ H a = some (.lst (ns.map V.int)) := by
  unfold rowD at h
  cases h with
  | lst a b => rw [DtA.intsE b] at a; exact ⟨_, rfl, a⟩
theorem Dt.listE {H : Hp} {v : V} {ds : List PyData} (h : Dt H v (.list ds)) : ∃ a xs, v = .ref a ∧ H a = some (.lst xs) ∧ DtA H xs ds := by
  cases h with
  | lst a b => exact ⟨_, _, rfl, a, b⟩
theorem Dt.tupE {H : Hp} {v : V} {ds : List PyData} (h : Dt H v (.tuple ds)) : ∃ a xs, v = .ref a ∧ H a = some (.tup xs) ∧ DtA H xs ds := by
  cases h with
  | tup a b => exact ⟨_, _, rfl, a, b⟩
/-! ### what is owned (and changes) is left out -/
def rs (S : List Addr) (H : Hp) : Hp := fun a => if a ∈ S then none else H a
theorem rs_nil (H : Hp) : rs [] H = H := by funext a; simp [rs]
theorem rs_in {S : List Addr} {H : Hp} {a : Addr} (h : a ∈ S) : rs S H a = none := if_pos h
theorem rs_out {S : List Addr} {H : Hp} {a : Addr} (h : a ∉ S) : rs S H a = H a := if_neg h
theorem rs_some {S : List Addr} {H : Hp} {a : Addr} {o : HO} (h : rs S H a = some o) : a ∉ S ∧ H a = some o := by
  by_cases m : a ∈ S
  · rw [rs_in m] at h; cases h
  · rw [rs_out m] at h; exact ⟨m, h⟩
theorem rs_le {S : List Addr} {H : Hp} : Same (rs S H) H := fun _ _ h => (rs_some h).2
theorem rs_same {S : List Addr} {H H' : Hp} (s : Same H H') : Same (rs S H) (rs S H') := fun b o h => by
  obtain ⟨m, e⟩ := rs_some h
  rw [rs_out m]
  exact s b o e
theorem rs_upd {S : List Addr} {H : Hp} {p : Addr} {o : HO} (h : p ∈ S) : rs S (L2.upd H p o) = rs S H := by
  funext a
  by_cases m : a ∈ S
  · rw [rs_in m, rs_in m]
  · rw [rs_out m, rs_out m, upd_ne (fun e => m (by rw [e]; exact h))]
/-- all of them stand -/
def Has (S : List Addr) (H : Hp) : Prop := ∀ a ∈ S, ∃ o, H a = some o
theorem Has.nil {H : Hp} : Has [] H := fun _ h => nomatch h
theorem Has.same {S : List Addr} {H H' : Hp} (h : Has S H) (s : Same H H') : Has S H' := fun a m => by
  obtain ⟨o, e⟩ := h a m
  exact ⟨o, s a o e⟩
theorem Has.cons {S : List Addr} {H : Hp} {p : Addr} {o : HO} (h : Has S H) (e : H p = some o) : Has (p :: S) H := fun a m => by
  rcases List.mem_cons.mp m with rfl | m
  · exact ⟨o, e⟩
  · exact h a m
theorem Has.upd {S : List Addr} {H : Hp} {p : Addr} {o : HO} (h : Has S H) : Has S (L2.upd H p o) := fun a m => by
  by_cases e : a = p
  · subst e; exact ⟨o, upd_same⟩
  · rw [upd_ne e]; exact h a m
theorem Has.out {S : List Addr} {H : Hp} {p : Addr} (h : Has S H) (n : H p = none) : p ∉ S := fun m => by
  obtain ⟨o, e⟩ := h p m
  rw [n] at e
  cases e
theorem GenAt.has {H : Hp} {g : Addr} {n : Nat} (h : GenAt H g n) : Has [g] H := by
  obtain ⟨x, y, z, e, _⟩ := h
  exact Has.nil.cons e
/-- all but what is owned stays -/
def Sta (S : List Addr) (H H' : Hp) : Prop := Same (rs S H) (rs S H')
theorem Sta.of {S : List Addr} {H H' : Hp} (s : Same H H') : Sta S H H' := rs_same s
theorem Sta.trans {S : List Addr} {H H1 H2 : Hp} (a : Sta S H H1) (b : Sta S H1 H2) : Sta S H H2 := fun c o h => b c o (a c o h)
theorem Sta.at_ {S : List Addr} {H H' : Hp} (s : Sta S H H') {a : Addr} {o : HO} (m : a ∉ S) (h : H a = some o) : H' a = some o := (rs_some (s a o (by rw [rs_out m]; exact h))).2
theorem Sta.upd {S : List Addr} {H : Hp} {p : Addr} {o : HO} (h : p ∈ S) : Sta S H (L2.upd H p o) := fun c u e => by rw [rs_upd h]; exact e
theorem Sta.more {S : List Addr} {H H' : Hp} {p : Addr} (s : Sta S H H') : Sta (p :: S) H H' := fun c o h => by
  obtain ⟨m, e⟩ := rs_some h
  have m2 : c ∉ S := fun z => m (List.mem_cons_of_mem _ z)
  rw [rs_out m]
  exact s.at_ m2 e
theorem But.sta {g : Addr} {H H' : Hp} (b : But g H H') : Sta [g] H H' := fun c o h => by
  obtain ⟨m, e⟩ := rs_some h
  rw [rs_out m]
  exact b c o (fun z => m (by rw [z]; exact List.mem_cons_self)) e
/-- what was there ahead of a new thing does not speak of it -/
theorem under {S : List Addr} {H H' : Hp} {p : Addr} (n : H p = none) (s : Same H H') : Same (rs S H) (rs (p :: S) H') := fun c o h => by
  obtain ⟨m, e⟩ := rs_some h
  rw [rs_out (fun z => by
    rcases List.mem_cons.mp z with rfl | z
    · rw [n] at e; cases e
    · exact m z)]
  exact s c o e
theorem over {S : List Addr} {H : Hp} {p : Addr} : Same (rs (p :: S) H) (rs S H) := fun c o h => by
  obtain ⟨m, e⟩ := rs_some h
  rw [rs_out (fun z => m (List.mem_cons_of_mem _ z))]
  exact e
/-! ### a new list, a new tuple, a sum of lists -/
theorem dt_new {S : List Addr} {H : Hp} {p : Addr} {xs : List V} {ds : List PyData} (hS : Has S H) (n : H p = none) (h : DtA (rs S H) xs ds) : Dt (rs S (upd H p (.lst xs))) (.ref p) (.list ds) :=
  .lst (by rw [rs_out (hS.out n)]; exact upd_same) (h.same (rs_same (same_upd n)))
theorem dt_newT {S : List Addr} {H : Hp} {p : Addr} {xs : List V} {ds : List PyData} (hS : Has S H) (n : H p = none) (h : DtA (rs S H) xs ds) : Dt (rs S (upd H p (.tup xs))) (.ref p) (.tuple ds) :=
  .tup (by rw [rs_out (hS.out n)]; exact upd_same) (h.same (rs_same (same_upd n)))
theorem d_lst {S : List Addr} {H : Hp} {xs : List V} {ds : List PyData} {Q : VK} (hS : Has S H) (h : DtA (rs S H) xs ds) (hz : xs.length ≤ sizeLine) (k : ∀ p H', Same H H' → H p = none → H' p = some (.lst xs) → Dt (rs S H') (.ref p) (.list ds) → Q (.ref p) H') : xs.length ≤ sizeLine ∧ ∀ p, H p = none → Q (.ref p) (upd H p (.lst xs)) :=
  ⟨hz, fun p n => k p _ (same_upd n) n upd_same (dt_new hS n h)⟩
theorem d_tup {S : List Addr} {H : Hp} {xs : List V} {ds : List PyData} {Q : VK} (hS : Has S H) (h : DtA (rs S H) xs ds) (hz : xs.length ≤ sizeLine) (k : ∀ p H', Same H H' → H p = none → H' p = some (.tup xs) → Dt (rs S H') (.ref p) (.tuple ds) → Q (.ref p) H') : xs.length ≤ sizeLine ∧ ∀ p, H p = none → Q (.ref p) (upd H p (.tup xs)) :=
  ⟨hz, fun p n => k p _ (same_upd n) n upd_same (dt_newT hS n h)⟩
theorem d_cat {S : List Addr} {H : Hp} {v w : V} {ds es : List PyData} {Q : VK} (hS : Has S H) (hv : Dt (rs S H) v (.list ds)) (hw : Dt (rs S H) w (.list es)) (hz : ds.length + es.length ≤ sizeLine) (k : ∀ p H', Same H H' → H p = none → Dt (rs S H') (.ref p) (.list (ds ++ es)) → Q (.ref p) H') : rCat v w H Q := by
  obtain ⟨a, xs, rfl, ha, hx⟩ := hv.listE
  obtain ⟨b, ys, rfl, hb, hy⟩ := hw.listE
  exact ⟨a, b, xs, ys, rfl, rfl, (rs_some ha).2, (rs_some hb).2, by rw [hx.len, hy.len]; exact hz, fun p n => k p _ (same_upd n) n (dt_new hS n (hx.app hy))⟩
theorem d_eq {K : PySem.W.Frag} {H : Hp} {v w : V} {d e : PyData} {Q : VK} (hv : Dt H v d) (hw : Dt H w e) (sd : SeqAt.shaped d = true) (se : SeqAt.shaped e = true) (q : Q (.bl (PyData.eqv d e)) H) : rEqD K v w H Q := ⟨d, e, hv.dp, hw.dp, sd, se, q⟩
theorem d_ne {K : PySem.W.Frag} {H : Hp} {v w : V} {d e : PyData} {Q : VK} (hv : Dt H v d) (hw : Dt H w e) (sd : SeqAt.shaped d = true) (se : SeqAt.shaped e = true) (q : Q (.bl (!PyData.eqv d e)) H) : rNeD K v w H Q := ⟨d, e, hv.dp, hw.dp, sd, se, q⟩
/-! ### comprehensions -/
/-- what comes of an item: nothing, or data -/
def Out (S : List Addr) (H : Hp) : Option PyData → Option V → Prop
  | some d, some v => Dt (rs S H) v d
  | none, none => True
  | _, _ => False
def accP (S : List Addr) (H1 : Hp) (D : Addr) (ds : List PyData) (H : Hp) : Prop := Same H1 H ∧ ∃ ys, H D = some (.lst ys) ∧ DtA (rs (D :: S) H) ys ds
theorem acc_step {S : List Addr} {H1 : Hp} {D : Addr} {sel : List (Option PyData)} {i : Nat} {o : Option PyData} {H H4 : Hp} (nD : H1 D = none) (ho : sel[i]? = some o) (hz : sel.length < sizeLine) (h : accP S H1 D ((sel.take i).filterMap id) H) (s4 : Same H H4) :
    ∀ y : Option V, Out (D :: S) H4 o y → match y with
      | some v => ∃ acc, H4 D = some (.lst acc) ∧ acc.length < sizeLine ∧ accP S H1 D ((sel.take (i + 1)).filterMap id) (upd H4 D (.lst (acc ++ [v])))
      | none => accP S H1 D ((sel.take (i + 1)).filterMap id) H4 := by
  obtain ⟨s, ys, hD, hy⟩ := h
  intro y hO
  rw [take_fm ho]
  cases o with
  | none =>
    cases y with
    | none => exact ⟨s.trans s4, ys, s4 _ _ hD, by simpa using hy.same (rs_same s4)⟩
    | some v => exact absurd hO (fun z => z)
  | some d =>
    cases y with
    | none => exact absurd hO (fun z => z)
    | some v =>
      refine ⟨ys, s4 _ _ hD, ?_, same_over nD (s.trans s4), ys ++ [v], upd_same, ?_⟩
      · rw [hy.len]
        exact Nat.lt_of_le_of_lt (fm_len sel i) hz
      · rw [rs_upd List.mem_cons_self]
        exact (hy.same (rs_same s4)).app (.cons hO .nil)
theorem acc_end {S : List Addr} {H1 : Hp} {D : Addr} {ds : List PyData} {H : Hp} (hS : Has S H1) (nD : H1 D = none) (h : accP S H1 D ds H) : Dt (rs S H) (.ref D) (.list ds) := by
  obtain ⟨s, ys, hD, hy⟩ := h
  exact .lst (by rw [rs_out (hS.out nD)]; exact hD) (hy.same over)
theorem lc_dR {lo : Int} {n : Nat} {j : Nat} {tt : TT} {te : TE} {vs : List Nat} {σ : L2.St} {H1 : Hp} {D : Addr} {Qd : Hp → Prop} {S : List Addr} (hS : Has S H1) (sel : List (Option PyData)) (nD : H1 D = none) (hlen : sel.length = n) (hz : n < sizeLine)
    (hw : ∀ x, wipe ((wipe σ vs).set j (some x)) vs = wipe σ vs)
    (hs : ∀ (i : Nat) (o : Option PyData) (H' : Hp), i < n → sel[i]? = some o → Same H1 H' → Has (D :: S) H' → ∀ Qt : Option V → Hp → Prop, (∀ y H'', Same H' H'' → Out (D :: S) H'' o y → Qt y H'') →
      tt ((wipe σ vs).set j (some (.int (lo + (i : Int))))) H' fun b H3 => if b = true then te ((wipe σ vs).set j (some (.int (lo + (i : Int))))) H3 fun y H4 => Qt (some y) H4 else Qt none H3)
    (hd : ∀ H', Same H1 H' → H' D ≠ none → Dt (rs S H') (.ref D) (.list (sel.filterMap id)) → Qd H') :
    ∃ W : Nat → Nat → Hp → Prop, (∃ m, W 0 m (upd H1 D (.lst []))) ∧ ∀ i m H, W i m H →
      ((Itr lo n).stop i H ∧ Qd H) ∨ ((Itr lo n).go i H ∧ ∃ Nx : Hp → Prop, (∀ H', Nx H' → ∃ m', m' < m ∧ W (i + 1) m' H') ∧ ∀ x H', (Itr lo n).yld i H x H' → gName j x (wipe σ vs) H' fun σ2 H2 => wipe σ2 vs = wipe σ vs ∧ tt σ2 H2 fun b H3 =>
        if b = true then te σ2 H3 fun y H4 => ∃ acc, H4 D = some (.lst acc) ∧ acc.length < sizeLine ∧ Nx (upd H4 D (.lst (acc ++ [y]))) else Nx H3) := by
  refine lc_range (lo := lo) (n := n) (fun i H => accP S H1 D ((sel.take i).filterMap id) H) ⟨same_upd nD, [], upd_same, .nil⟩ ?_ ?_
  · rintro i H hi h
    refine ⟨hw _, ?_⟩
    have ho : sel[i]? = some (sel[i]'(by omega)) := List.getElem?_eq_getElem (by omega)
    obtain ⟨s, ys, hD, hy⟩ := id h
    exact hs i _ H hi ho s ((hS.same s).cons hD) (fun o H4 => match o with
      | some y => ∃ acc, H4 D = some (.lst acc) ∧ acc.length < sizeLine ∧ accP S H1 D ((sel.take (i + 1)).filterMap id) (upd H4 D (.lst (acc ++ [y])))
      | none => accP S H1 D ((sel.take (i + 1)).filterMap id) H4) fun y H4 s4 hO => acc_step nD ho (by omega) h s4 y hO
  · rintro H h
    rw [← hlen, List.take_length] at h
    refine hd H h.1 ?_ (acc_end hS nD h)
    obtain ⟨_, ys, hD, _⟩ := h
    rw [hD]
    exact fun z => nomatch z
theorem lc_dL {K : PySem.W.Frag} {a : Addr} {xs : List V} {j : Nat} {tt : TT} {te : TE} {vs : List Nat} {σ : L2.St} {H1 : Hp} {D : Addr} {Qd : Hp → Prop} {S : List Addr} (hS : Has S H1) (sel : List (Option PyData)) (nD : H1 D = none) (hA : SqL K H1 a xs) (hlen : sel.length = xs.length) (hz : xs.length < sizeLine)
    (hw : ∀ x, wipe ((wipe σ vs).set j (some x)) vs = wipe σ vs)
    (hs : ∀ (i : Nat) (x : V) (o : Option PyData) (H' : Hp), xs[i]? = some x → sel[i]? = some o → Same H1 H' → Has (D :: S) H' → ∀ Qt : Option V → Hp → Prop, (∀ y H'', Same H' H'' → Out (D :: S) H'' o y → Qt y H'') →
      tt ((wipe σ vs).set j (some x)) H' fun b H3 => if b = true then te ((wipe σ vs).set j (some x)) H3 fun y H4 => Qt (some y) H4 else Qt none H3)
    (hd : ∀ H', Same H1 H' → H' D ≠ none → Dt (rs S H') (.ref D) (.list (sel.filterMap id)) → Qd H') :
    ∃ W : Nat → Nat → Hp → Prop, (∃ m, W 0 m (upd H1 D (.lst []))) ∧ ∀ i m H, W i m H →
      ((Itl K a).stop i H ∧ Qd H) ∨ ((Itl K a).go i H ∧ ∃ Nx : Hp → Prop, (∀ H', Nx H' → ∃ m', m' < m ∧ W (i + 1) m' H') ∧ ∀ x H', (Itl K a).yld i H x H' → gName j x (wipe σ vs) H' fun σ2 H2 => wipe σ2 vs = wipe σ vs ∧ tt σ2 H2 fun b H3 =>
        if b = true then te σ2 H3 fun y H4 => ∃ acc, H4 D = some (.lst acc) ∧ acc.length < sizeLine ∧ Nx (upd H4 D (.lst (acc ++ [y]))) else Nx H3) := by
  refine lc_list (K := K) (a := a) (xs := xs) (fun i H => accP S H1 D ((sel.take i).filterMap id) H) ⟨same_upd nD, [], upd_same, .nil⟩ (fun i H _ p => p.1.seq hA) ?_ ?_
  · rintro i x H hx h
    refine ⟨hw _, ?_⟩
    have hi := (List.getElem?_eq_some_iff.mp hx).1
    have ho : sel[i]? = some (sel[i]'(by omega)) := List.getElem?_eq_getElem (by omega)
    obtain ⟨s, ys, hD, hy⟩ := id h
    exact hs i x _ H hx ho s ((hS.same s).cons hD) (fun o H4 => match o with
      | some y => ∃ acc, H4 D = some (.lst acc) ∧ acc.length < sizeLine ∧ accP S H1 D ((sel.take (i + 1)).filterMap id) (upd H4 D (.lst (acc ++ [y])))
      | none => accP S H1 D ((sel.take (i + 1)).filterMap id) H4) fun y H4 s4 hO => acc_step nD ho (by omega) h s4 y hO
  · rintro H h
    rw [← hlen, List.take_length] at h
    refine hd H h.1 ?_ (acc_end hS nD h)
    obtain ⟨_, ys, hD, _⟩ := h
    rw [hD]
    exact fun z => nomatch z
/-- maps: each item's data -/
theorem sel_map {α : Type} (l : List α) (f : α → PyData) : (l.map fun x => some (f x)).filterMap id = l.map f := by
  induction l with
  | nil => rfl
  | cons x l ih =>
    show f x :: (l.map fun x => some (f x)).filterMap id = _
    rw [ih]
    rfl
/-- over any walk -/
theorem lc_dW {J : It} {n : Nat} {G : Hp → Prop} {Y : Nat → Hp → V → Hp → Prop} (w : Walk J n G Y) {g : TG} {tt : TT} {te : TE} {vs : List Nat} {σ : L2.St} {H1 : Hp} {D : Addr} {Qd : Hp → Prop} {S : List Addr} (hS : Has S H1) (sel : List (Option PyData)) (nD : H1 D = none) (hlen : sel.length = n) (hz : n < sizeLine)
    (hG : ∀ H', Same H1 H' → G H')
    (hs : ∀ (i : Nat) (o : Option PyData) (H0 : Hp) (x : V) (H' : Hp), i < n → sel[i]? = some o → Same H1 H0 → Has (D :: S) H0 → Y i H0 x H' → ∀ Qt : Option V → Hp → Prop, (∀ y H'', Same H0 H'' → Out (D :: S) H'' o y → Qt y H'') →
      g x (wipe σ vs) H' fun σ2 H2 => wipe σ2 vs = wipe σ vs ∧ tt σ2 H2 fun b H3 => if b = true then te σ2 H3 fun y H4 => Qt (some y) H4 else Qt none H3)
    (hd : ∀ H', Same H1 H' → H' D ≠ none → Dt (rs S H') (.ref D) (.list (sel.filterMap id)) → Qd H') :
    ∃ W : Nat → Nat → Hp → Prop, (∃ m, W 0 m (upd H1 D (.lst []))) ∧ ∀ i m H, W i m H →
      (J.stop i H ∧ Qd H) ∨ (J.go i H ∧ ∃ Nx : Hp → Prop, (∀ H', Nx H' → ∃ m', m' < m ∧ W (i + 1) m' H') ∧ ∀ x H', J.yld i H x H' → g x (wipe σ vs) H' fun σ2 H2 => wipe σ2 vs = wipe σ vs ∧ tt σ2 H2 fun b H3 =>
        if b = true then te σ2 H3 fun y H4 => ∃ acc, H4 D = some (.lst acc) ∧ acc.length < sizeLine ∧ Nx (upd H4 D (.lst (acc ++ [y]))) else Nx H3) := by
  refine lc_it w (fun i H => accP S H1 D ((sel.take i).filterMap id) H) ⟨same_upd nD, [], upd_same, .nil⟩ (fun i H _ p => hG H p.1) ?_ ?_
  · rintro i x H H' hi h y
    have ho : sel[i]? = some (sel[i]'(by omega)) := List.getElem?_eq_getElem (by omega)
    obtain ⟨s, ys, hD, hy⟩ := id h
    exact hs i _ H x H' hi ho s ((hS.same s).cons hD) y (fun o H4 => match o with
      | some y => ∃ acc, H4 D = some (.lst acc) ∧ acc.length < sizeLine ∧ accP S H1 D ((sel.take (i + 1)).filterMap id) (upd H4 D (.lst (acc ++ [y])))
      | none => accP S H1 D ((sel.take (i + 1)).filterMap id) H4) fun y H4 s4 hO => acc_step nD ho (by omega) h s4 y hO
  · rintro H h
    rw [← hlen, List.take_length] at h
    refine hd H h.1 ?_ (acc_end hS nD h)
    obtain ⟨_, ys, hD, _⟩ := h
    rw [hD]
    exact fun z => nomatch z
theorem dt_pairs {K : PySem.W.Frag} {H : Hp} {a : Addr} {ps : List (Int × Int)} (h : Dt H (.ref a) (.list (ps.map pairD))) : PairsAt K H a ps := by
  cases h with
  | lst ha hx =>
    rename_i xs
    have key : ∀ (ps : List (Int × Int)) (xs : List V), DtA H xs (ps.map pairD) → ∃ as : List Addr, xs = as.map V.ref ∧ as.length = ps.length ∧ ∀ (i : Nat) (t : Addr) (p : Int × Int), as[i]? = some t → ps[i]? = some p → SqT K H t [.int p.1, .int p.2] := fun ps => by
      induction ps with
      | nil => intro xs h; cases h; exact ⟨[], rfl, rfl, fun i t p ht => by simp at ht⟩
      | cons p ps ih =>
        intro xs h
        cases h with
        | cons b c =>
          obtain ⟨as, rfl, hl, k⟩ := ih _ c
          obtain ⟨t, ys, rfl, ht, hy⟩ := (show Dt H _ (.tuple [.int p.1, .int p.2]) from b).tupE
          rw [DtA.intsE (ns := [p.1, p.2]) hy] at ht
          refine ⟨t :: as, rfl, by rw [List.length_cons, List.length_cons, hl], fun i u q hu hq => ?_⟩
          cases i with
          | zero =>
            rw [List.getElem?_cons_zero] at hu hq
            cases hu
            cases hq
            exact .inl (.inl ht)
          | succ i =>
            rw [List.getElem?_cons_succ] at hu hq
            exact k i u q hu hq
    obtain ⟨as, rfl, hl, k⟩ := key ps xs hx
    exact ⟨as, .inl (.inl ha), hl, k⟩
end My

namespace My
open PySem PySem.Spec PyProof.Rows L2 Pre
/-! ### set(a list of whole numbers) -/
/-- a set just made -/
abbrev sE (w : World) : Obj := { cls := .type "set", dict := none, data := .set #[] 0 (.fresh 0 0 (!w.params.followText "set-order")) }
section
variable {P : Program} {w : World} {A : Around} {E : Value → Shared → Prop} {s : Shared}
/-- all that stood ahead stands -/
def Ahead (h h' : Heap) : Prop := ∀ b o, h.get? b = some o → h'.get? b = some o
set_option maxHeartbeats 8000000 in
theorem set_of_list {l : Addr} {its : Array Value} (ns : List Int) {Q : Value → Shared → Prop} (calm : A.handled = none) (lst : s.heap.IsList l its) (are : IntsAre its.toList ns) (few : ns.length + 1 < scanBound)
    (fin : ∀ (h' : Heap) (tk c : Nat), SetR w h' s.heap.objs.size (fun j => decide (j ∈ ns)) c → c ≤ ns.length → Ahead s.heap h' → Q (.ref s.heap.objs.size) { s with heap := h', toks := tk }) :
    wpAny (model P w) A (call (.type "set") [.ref l]) Q E s := by
  have size : its.size = ns.length := (Array.length_toList (xs := its)).symm.trans are.length
  obtain ⟨c0, tl, hmro⟩ := F.called_set.mro; have hmade := F.called_set.made; have hsub := F.called_set.sub; have hlt := F.called_set.notType; have hcr := F.called_set.canCreate; have hct := F.typeCall_set_1 (.ref l)
  refine wpAny_call (codeAny_of_tree ?_); show wpAny _ _ (callAny (.type "set") _) _ _ _
  refine wpAny_pure ⟨Code.quiet_builtin _ (by decide +kernel), codeAny_builtin F.entry_type_call ?_⟩; rw [Around.under_plain (weight_type_call_type "set" [.ref l] []) rfl]
  repeat (any_goals (first | assumption | wp_step))
  let top := s.heap.objs.size
  let h1 := s.heap.push (sE w)
  refine codeAny_mono (code_set_led1 (.ref l) (E := E) (Q₁ := fun x t => x = .ref top ∧ t = { s with heap := h1 }) ⟨rfl, rfl⟩) fun r t hr => ?_
  rcases r with e | fl
  · exact hr
  cases fl with
  | ret x =>
    obtain ⟨rfl, rfl⟩ := hr
    have new : h1.get? top = some (sE w) := Heap.get?_push_size _ rfl
    have isSet : Shared.TypeIs { s with heap := h1 } (.ref top) "set" := ⟨_, new, rfl⟩
    have hli := F.called_set.init.lookup; have hbi := F.called_set.init.bind (.ref top)
    repeat (any_goals (first | assumption | wp_step))
    refine codeAny_mono (codeAny_call_builtin (R := wants (fun y u => y = .none ∧ ∃ h' tk c, u = { s with heap := h', toks := tk } ∧ SetR w h' top (fun j => decide (j ∈ ns)) c ∧ c ≤ ns.length ∧ Ahead s.heap h') E) F.called_set.init.plain F.entry_set_init (check_set_init_1 isSet ?_)) fun r2 u hu => ?_
    · obtain ⟨⟨oc, od, ot, os⟩, at_l, cl, nl, dl⟩ := lst
      simp only at cl dl; subst cl; subst dl
      have at1 : h1.get? l = some { cls := .type "list", dict := od, data := .seq its nl, slots := os } := Heap.get?_push_of_some _ at_l
      have n1 := F.sub_list_set; have n2 := F.sub_list_frozenset; have n3 : (Value.type "list" == Value.type "dict") = false := by decide
      have lst1 : h1.IsList l its := ⟨_, at1, rfl, nl, rfl⟩
      unfold Builtin.«set.__init__» noKeywords Builtin.Frozenset.updateFrom; generalize eI : pyIter = I
      wp_walk
      subst eI
      refine wpAny_pyIter_list lst1 ?_; refine wpAny_bind (wpAny_runValue ?_)
      have lt := Heap.lt_size at_l
      have calm3 : A.in1.in1.in1.handled = none := by simp [calm]
      have hz : h1.objs.size = top + 1 := Heap.size_push ..
      have apart : l ≠ h1.objs.size := by rw [hz]; exact Nat.ne_of_lt (Nat.lt_succ_of_lt lt)
      have notin : top ∉ [h1.objs.size, l] := by
        rw [hz]; intro z
        rcases List.mem_cons.mp z with z | z
        · omega
        · have := List.mem_singleton.mp z; exact Nat.lt_irrefl l (by rw [← this] at lt ⊢; exact lt)
      have each : ∀ (i : Nat) (v : Value), its[i]? = some v → ∃ k t, ns[i]? = some k ∧ v = .int k t := fun i v hv => by
        have hi := (Array.getElem?_eq_some_iff.mp hv).1; rw [size] at hi
        obtain ⟨t, e⟩ := IntsAre.int_at are i v ((Array.getElem?_toList (xs := its)).trans hv)
        exact ⟨ns[i], t, List.getElem?_eq_getElem hi, by rw [e, List.getD_eq_getElem?_getD, List.getElem?_eq_getElem hi]; rfl⟩
      refine set_update_ints ((Walks.list calm3 _ l apart its).toS) top notin ns size few each (its.size - 0) 0 _ (by omega) (Nat.zero_le _) ⟨⟨_, Heap.get?_push_size _ rfl, rfl, rfl⟩, (lst1.push _)⟩ ⟨0, Nat.le_refl 0, setR_new_at (Heap.get?_push_of_some _ new)⟩ fun s2 c mv hc set2 => ?_
      have es : s2 = { s with heap := s2.heap, toks := s2.toks } := by
        obtain ⟨a1, a2, a3, a4, a5⟩ := s2
        obtain rfl : a2 = s.gens := mv.gens
        obtain rfl : a3 = s.drawn := mv.drawn
        obtain rfl : a5 = s.os := mv.os
        rfl
      rw [size] at hc
      show wpAny _ _ _ _ _ _
      refine wpAny_pure ?_
      show wpAny _ _ (ret Value.none) _ _ _
      refine wpAny_pure ⟨rfl, s2.heap, s2.toks, c, es, set2, hc, fun b o e => mv.heap b o (fun z => ?_) (Heap.get?_push_of_some _ (Heap.get?_push_of_some _ e))⟩
      have lb := Heap.lt_size e
      rcases List.mem_cons.mp z with z | z
      · exact Nat.lt_irrefl _ (by rw [z] at lb; exact lb)
      · rw [List.mem_singleton.mp z, hz] at lb; exact absurd lb (by show ¬ top + 1 < top; omega)
    · rcases r2 with e | fl2
      · exact hu
      cases fl2 with
      | ret y =>
        obtain ⟨rfl, h', tk, c, rfl, a1, a2, a3⟩ := hu
        repeat (any_goals (first | assumption | wp_step))
        exact fin _ _ _ a1 a2 a3
      | _ => exact hu.elim
  | _ => exact hr.elim
end
section
variable {X : Cx}
def rSetL (K : PySem.W.Frag) (w : World) : List V → Hp → VK → Prop := fun xs H Q => ∃ (l : Addr) (ns : List Int), xs = [.ref l] ∧ SqL K H l (ns.map V.int) ∧ ns.length ≤ 1000 ∧ ∀ p c, H p = none → c ≤ ns.length → Q (.ref p) (upd H p (SetO w p (fun j => decide (j ∈ ns)) c))
theorem k_setL (K : PySem.W.Frag) (h : X.K = K) (hc : X.calm = true) : CallR X (.type "set") (rSetL K X.w) := by
  subst h
  intro pins s σ H xs us Q I r h
  obtain ⟨l, ns, rfl, hl, hz, q⟩ := h
  rw [Vals.ref1 r]
  obtain ⟨its, rv, pl, _⟩ := I.list hl
  have are : IntsAre its.toArray.toList ns := ints_of_vals rv
  exact set_of_list ns (I.ok.hd hc) pl.isList are (by unfold scanBound; omega) fun h' tk c R le kp => ⟨.ref _, _, I.laid (t' := tk) kp (Nat.le_refl _) (setO_new R), rfl, q _ c (I.hok.fresh (Nat.le_refl _)) le⟩
/-- sorted(a set of whole numbers) -/
theorem k_sortedSet (h : X.calm = true) : CallR X (.builtin "sorted") (rSortedSet X.w) := cr_sortedSet h
/-- not in a range -/
theorem op_notin_rng : OpR X (compareOp .NotIn) (fun x y H Q => ∃ i a lo hi, x = V.int i ∧ y = V.ref a ∧ H a = some (.rng lo hi) ∧ Q (.bl (!decide (lo ≤ i ∧ i < hi))) H) := by
  intro pins s σ H x y v u Q I rx ry h
  obtain ⟨i, a, lo, hi, rfl, rfl, ha, q⟩ := h
  obtain ⟨k, rfl⟩ := rx
  obtain rfl : u = Value.ref a := ry
  obtain ⟨t1, t2, t3, ho⟩ := I.hok a _ ha
  show wpAny _ _ (do return Value.bool (!(← contains (Value.ref a) (Value.int i k)))) _ _ s
  refine wpAny_bind (wpAny_contains_slot (T := "range") ⟨_, ho, rfl⟩ F.slot_range_contains (call_meets F.slot_range_contains ⟨_, ho, rfl⟩ F.entry_range_contains (F.args_range_contains_2 _ _) (q_contains a lo hi i t1 t2 t3 k) ⟨ho, wpAny_truthy_bool (wpAny_pure ⟨.bl _, H, I, rfl, ?_⟩)⟩))
  rw [place1]; exact q
variable {a b c d : Expr} {ta tb tc td : TE} {pos : Pos} {o1 o2 o3 : CmpOp} {r1 r2 r3 : R2}
def tChain3 (r1 r2 r3 : R2) (ta tb tc td : TE) : TE := fun σ H Q => ta σ H fun x H1 => tb σ H1 fun y H2 => r1 x y H2 fun z H3 => ∃ k, z = .bl k ∧ (if k = true then tc σ H3 fun u H4 => r2 y u H4 fun z2 H5 => ∃ k2, z2 = .bl k2 ∧ (if k2 = true then td σ H5 fun v H6 => r3 u v H6 Q else Q (.bl false) H5) else Q (.bl false) H3)
theorem pe_chain3 (h1 : OpR X (compareOp o1) r1) (h2 : OpR X (compareOp o2) r2) (h3 : OpR X (compareOp o3) r3) (ha : PE X a ta) (hb : PE X b tb) (hc : PE X c tc) (hd : PE X d td)
    (hm : lastMarks [o1, o2, o3] [b, c, d] = false := by with_unfolding_all rfl) : PE X (.Compare a [o1, o2, o3] [b, c, d] pos) (tChain3 r1 r2 r3 ta tb tc td) := by
  refine ⟨fun pins s σ H Q I h => Compare_chain (thn (ha.run pins s σ H _ I h) fun v s1 ⟨x, H1, I1, rx, q1⟩ => chain_link (thn (hb.run pins s1 σ H1 _ I1 q1) fun u s2 ⟨y, H2, I2, ry, q2⟩ => thn (h1 pins s2 σ H2 x y v u _ I2 rx ry q2) fun _ s3 ⟨_, H3, I3, rz, k, e, q3⟩ => ?_)) hm⟩
  subst e; cases rz; refine wpAny_truthy_bool ?_
  cases k
  · exact ite_ff ⟨.bl false, H3, I3, rfl, q3⟩
  refine ite_tt (chain_link (thn (hc.run pins s3 σ H3 _ I3 q3) fun w' s4 ⟨z', H4, I4, r4, q4⟩ => thn (h2 pins s4 σ H4 y z' u w' _ I4 ry r4 q4) fun _ s5 ⟨_, H5, I5, rz, k2, e, q5⟩ => ?_))
  subst e; cases rz; refine wpAny_truthy_bool ?_
  cases k2
  · exact ite_ff ⟨.bl false, H5, I5, rfl, q5⟩
  exact ite_tt (chain_last (thn (hd.run pins s5 σ H5 _ I5 q5) fun v6 s6 ⟨z6, H6, I6, r6, q6⟩ => h3 pins s6 σ H6 z' z6 w' v6 Q I6 r4 r6 q6))
theorem pt_chain3 (h1 : OpR X (compareOp o1) r1) (h2 : OpR X (compareOp o2) r2) (h3 : OpR X (compareOp o3) r3) (ha : PE X a ta) (hb : PE X b tb) (hc : PE X c tc) (hd : PE X d td)
    (hm : lastMarks [o1, o2, o3] [b, c, d] = false := by with_unfolding_all rfl) : PT X (.Compare a [o1, o2, o3] [b, c, d] pos) (tTest (tChain3 r1 r2 r3 ta tb tc td)) := by
  refine ⟨fun pins s σ H Q I h => isTrue_chain (thn (ha.run pins s σ H _ I h) fun v s1 ⟨x, H1, I1, rx, q1⟩ => test_link (thn (hb.run pins s1 σ H1 _ I1 q1) fun u s2 ⟨y, H2, I2, ry, q2⟩ => thn (h1 pins s2 σ H2 x y v u _ I2 rx ry q2) fun _ s3 ⟨_, H3, I3, rz, k, e, q3⟩ => ?_)) hm⟩
  subst e; cases rz; refine wpAny_truthy_bool ?_
  cases k
  · obtain ⟨k', e', q'⟩ := q3; cases e'; exact ite_ff ⟨H3, I3, q'⟩
  refine ite_tt (test_link (thn (hc.run pins s3 σ H3 _ I3 q3) fun w' s4 ⟨z', H4, I4, r4, q4⟩ => thn (h2 pins s4 σ H4 y z' u w' _ I4 ry r4 q4) fun _ s5 ⟨_, H5, I5, rz, k2, e, q5⟩ => ?_))
  subst e; cases rz; refine wpAny_truthy_bool ?_
  cases k2
  · obtain ⟨k', e', q'⟩ := q5; cases e'; exact ite_ff ⟨H5, I5, q'⟩
  refine ite_tt (test_last (thn (hd.run pins s5 σ H5 _ I5 q5) fun v6 s6 ⟨z6, H6, I6, r6, q6⟩ => thn (h3 pins s6 σ H6 z' z6 w' v6 _ I6 r4 r6 q6) fun _ s7 ⟨_, H7, I7, rz, k3, e, q7⟩ => ?_))
  subst e; cases rz; exact wpAny_truthy_bool ⟨H7, I7, q7⟩
end
end My

namespace My
open PySem PySem.Spec PyProof.Rows L2 Pre
/-! ### promises for callers that stand in no repr: within them repr of lists shows its items -/
structure FnG (P : Program) (w : World) (K : PySem.W.Frag) (mg : Str → Option Value) (base : Heap) (CX : CXT) (k : Nat) (f : Addr) (fd : FuncData) (ps : List Str) (sp : Sp) : Prop where
  many : ∀ xs H Q E, sp xs H Q E → xs.length = ps.length
  does : ∀ (A : Around), A.guards = some [] → Room k A → ∀ (fr : List Env) (t : Shared) (H : Hp), Env0 P w K mg base A fr t H → ∀ (ar : Args) (us : List Value) (xs : List V), BindsTo t fd ar (ps.zip us) → Vals xs us →
    ∀ (Q : VK) (E : XK), sp xs H Q E → codeAny (model P w) A (.call (.ref f) ar) (CR CX fr P w H t Q E) t
section
variable {P : Program} {w : World} {K : PySem.W.Frag} {mg : Str → Option Value} {base : Heap} {CX : CXT} {k : Nat} {f : Addr} {fd : FuncData} {ps : List Str} {sp : Sp}
theorem FnG.of (F : FnOk P w K mg base CX k f fd ps sp) : FnG P w K mg base CX k f fd ps sp :=
  ⟨F.len, fun A _ hr fr t H e ar us xs b v Q E h => F.run A fr t H ar us xs Q E hr e b v h⟩
/-- a body makes a promise -/
theorem FnG.body {x qual : Str} {pr : Arguments} {bd : List Stmt} {sc : Scope} {dvs : List V} {kws : List (Str × V)} {N : List Str} (F : FunD K x qual pr bd sc dvs kws f fd) (S : FnScope N ps sc) (hm : ∀ xs H Q E, sp xs H Q E → xs.length = ps.length)
    (go : ∀ (cv : Value) (A : Around) (fr : List Env) (t : Shared) (H : Hp) (xs : List V) (Q : VK) (E : XK), A.guards = some [] → Room k (A.deeper (envOfC qual sc t.heap.objs.size f cv)) → sp xs H Q E →
      ∃ τ, PSs (cxOf CX P w K mg base N qual sc f cv A fr t H E) bd τ ∧ τ { nx := fun _ H1 => Q .non H1, rt := Q } (start N xs) H) : FnG P w K mg base CX (k + 1) f fd ps sp := by
  obtain ⟨c0, d0, dv, kv, dc, pm, an, cv, ct, sl, rfl, lk, hcode, _, _⟩ := F.ex
  refine ⟨hm, fun A gd hr fr t H e0 ar us xs hb rv Q E hs => ?_⟩
  have hin : K.In t.heap := e0.mod.kin.keeps fun b o z => (e0.bs b o z).1
  have hno : t.heap.NoLimit := e0.mod.nolimit.keeps fun b o z => (e0.bs b o z).1
  refine codeAny_call_function hr.depth (hin _ _ lk) rfl S.co S.gen rfl (PySem.W.codeRec_of hin hcode) (hb _ _ _ _ ?_)
  refine wpAny_newFunctionEnv_cells S.kind (fun y hy => ?_) fun env he t1 hx => ?_
  · obtain ⟨n, u⟩ := y
    rcases S.par n (List.of_mem_zip hy).1 with z | z
    · exact Or.inl z
    · exact Or.inr ⟨z, PySem.W.cellsFrom_some _ _ _ (Or.inl z)⟩
  · subst he
    refine ⟨hno.keeps hx.toInCall.keep, codeAny_func ?_⟩
    obtain ⟨τ, hτ, hq⟩ := go cv A fr t H xs Q E gd (hr.deeper _) hs
    have J := inv_start (CX := CX) (E := E) S hr.hd e0 (hm _ _ _ _ hs) rv hx
    refine wpAny_mono (hτ.run [] t1 (start N xs) H _ J hq) (fun fl t2 h2 => ?_) fun _ _ z => z
    cases fl with
    | brk => exact False.elim h2.choose_spec.choose_spec.2
    | cont => exact False.elim h2.choose_spec.choose_spec.2
    | next =>
      obtain ⟨σ2, H2, J2, q2⟩ := h2
      exact ⟨V.non, H2, J2.os, J2.bare, J2.base, J2.hok, rfl, q2⟩
    | ret u =>
      obtain ⟨v2, σ2, H2, J2, r2, q2⟩ := h2
      exact ⟨v2, H2, J2.os, J2.bare, J2.base, J2.hok, r2, q2⟩
end
section
variable {X : Cx} {CX : CXT} {k : Nat} {f : Addr} {fd : FuncData} {ps : List Str} {sp : Sp} {dvs : List V} {ds : List Value} {E : XK} {x : Str} {p pos : Pos} {e : Expr} {es : List Expr} {t : TA}
theorem go_g {pins : List (Addr × Obj)} {σ : L2.St} {H : Hp} {s : Shared} {Q : VK} {us : List Value} {xs : List V} (F : FnG X.prog X.w X.K X.mg X.base CX k f fd ps sp) (gd : X.A.guards = some []) (hr : Room k X.A) (hb : Binds X.K fd ps ds) (hd : Vals dvs ds)
    (hx : Passes CX X E) (I : Inv X pins σ H s) (r : Vals xs us) (h : sp (xs ++ dvs) H Q E) : wpAny (model X.prog X.w) X.A (call (.ref f) us) (EP X pins σ Q) X.xe s := by
  have rr := Vals.append r hd
  refine wpAny_call (codeAny_mono (F.does X.A gd hr X.stack s H I.env0 ⟨us, []⟩ (us ++ ds) (xs ++ dvs) (hb s us I.kIn (by rw [← rr.length]; exact F.many _ _ _ _ h)) rr Q E h) fun z s2 hz => ?_)
  match z, hz with
  | .error e, hz => exact hx pins σ H s e s2 I hz
  | .ok (.ret u), hz => exact I.after hz
theorem pe_callG (F : FnG X.prog X.w X.K X.mg X.base CX k f fd ps sp) (gd : X.A.guards = some []) (hr : Room k X.A) (hg : Gl X x) (hm : X.mg x = some (.ref f)) (hk : PySem.W.keepIn X.K (.ref f) = true) (hb : Binds X.K fd ps ds) (hd : Vals dvs ds) (hx : Passes CX X E)
    (ha : PA X (e :: es) t) (hdb : (x == ("__debug__" : Str)) = false := by decide) (he : starEach (e :: es) X.env = (false, eval e X.env) :: starEach es X.env := by rfl) (hpl : (backTo pos (starEach es X.env)).any (·.1) = false := by rfl) :
    PE X (.Call (.Name x p) (e :: es) [] pos) (tCall sp dvs E t) :=
  ⟨fun pins s σ H Q I h => wpAny_Call_Name_kw (ld_glob I hg hm (PySem.W.callWith_K (h₀ := X.base) I.ok.mod.kin hk (thn (ha.run pos pins s σ H _ I h) fun us s1 ⟨vs, H1, J, r, q⟩ => ⟨J.kIn, go_g F gd hr hb hd hx J r q⟩) he hpl) hdb)⟩
theorem pe_callG0 (F : FnG X.prog X.w X.K X.mg X.base CX k f fd ps sp) (gd : X.A.guards = some []) (hr : Room k X.A) (hg : Gl X x) (hm : X.mg x = some (.ref f)) (hk : PySem.W.keepIn X.K (.ref f) = true) (hb : Binds X.K fd ps ds) (hd : Vals dvs ds) (hx : Passes CX X E)
    (hdb : (x == ("__debug__" : Str)) = false := by decide) : PE X (.Call (.Name x p) [] [] pos) (tCall sp dvs E tNil) :=
  ⟨fun pins s σ H Q I h => wpAny_Call_Name_kw (ld_glob I hg hm (PySem.W.callWith_K0 I.kIn hk (go_g (us := []) F gd hr hb hd hx I .nil h)) hdb)⟩
end
/-! ### repr -/
def rRepr (K : PySem.W.Frag) : List V → Hp → VK → Prop := fun xs H Q => ∃ (x : V) (d : PyData), xs = [x] ∧ Dp K H x d ∧ d.showable = true ∧ SeqAt.shaped d = true ∧ d.shown.length ≤ sizeLine ∧ Q (.str d.shown) H
theorem call_repr {X : Cx} (gd : X.A.guards = some []) (hu : X.A.units + 65 < cLine) : CallR X (.builtin "repr") (rRepr X.K) := by
  intro pins s σ H xs us Q I r h
  obtain ⟨x, d, rfl, hd, hs, hsh, hl, q⟩ := h
  cases r with
  | cons rx rr =>
    cases rr
    rename_i u
    have hlay : d.canLay0 = true := SeqAt.canLay_of_shaped hsh
    have hdep : d.depth ≤ 64 := by
      have z : (d.canLay0 && decide (d.depth ≤ 64)) = true := hsh
      exact of_decide_eq_true (Bool.and_eq_true_iff.mp z).2
    obtain ⟨as, rd⟩ := Dp.reads I d x u hd rx
    have fin : ∀ h' v tk, (∀ b o, s.heap.get? b = some o → h'.get? b = some o) → EP X pins σ Q (.str d.shown v) { s with heap := h', toks := tk } := fun h' v tk hk => ⟨.str d.shown, H, I.kept hk, ⟨v, rfl⟩, q⟩
    cases hd with
    | non => cases rx; exact PySem.P.repr_of_none (fin _ _ _ fun _ _ z => z)
    | bl b => cases rx; exact PySem.P.repr_of_bool (fin _ _ _ fun _ _ z => z)
    | int i => obtain ⟨t, rfl⟩ := rx; exact PySem.P.repr_of_int (of_decide_eq_true hs) (fin _ _ _ fun _ _ z => z)
    | str y => obtain ⟨t, rfl⟩ := rx; exact PySem.P.repr_of_str (fin _ _ _ fun _ _ z => z) hl
    | lst _ _ => cases rx; exact repr_of_reads' rd hs (PyData.noDict_hsm (PyData.hasDict_of_canLay _ hlay)) gd (by omega) (fun _ _ z => z) fin hl
    | tup _ _ => cases rx; exact repr_of_reads' rd hs (PyData.noDict_hsm (PyData.hasDict_of_canLay _ hlay)) gd (by omega) (fun _ _ z => z) fin hl
theorem k_repr {X : Cx} (K : PySem.W.Frag) (h : X.K = K) (gd : X.A.guards = some []) (hu : X.A.units + 65 < cLine) : CallR X (.builtin "repr") (rRepr K) := by subst h; exact call_repr gd hu
theorem hu65 {k : Nat} {A : Around} (r : Room k A) : A.units + 65 < cLine := by have := r.un; omega
/-- rows of whole numbers, shown -/
theorem dp_ints {K : PySem.W.Frag} {H : Hp} : ∀ ns : List Int, DpAll K H (ns.map V.int) (ns.map PyData.int)
  | [] => .nil
  | n :: ns => .cons (.int n) (dp_ints ns)
theorem dp_row {K : PySem.W.Frag} {H : Hp} {a : Addr} {ns : List Int} (h : SqL K H a (ns.map V.int)) : Dp K H (.ref a) (.list (ns.map PyData.int)) := .lst h (dp_ints ns)
def shownR (ns : List Int) : Str := PyData.shown (.list (ns.map PyData.int))
theorem ints_lay : ∀ ns : List Int, PyData.canLayAll0 (ns.map PyData.int) = true
  | [] => rfl
  | n :: ns => by simp [PyData.canLayAll0, PyData.canLay0, ints_lay ns]
theorem ints_depth : ∀ ns : List Int, PyData.depthAll (ns.map PyData.int) ≤ 1
  | [] => by simp [PyData.depthAll]
  | n :: ns => by
    have := ints_depth ns
    simp only [List.map_cons, PyData.depthAll, PyData.depth]
    omega
theorem row_shaped (ns : List Int) : SeqAt.shaped (.list (ns.map PyData.int)) = true := by
  have h := ints_depth ns
  show (PyData.canLay0 (.list (ns.map PyData.int)) && decide (PyData.depth (.list (ns.map PyData.int)) ≤ 64)) = true
  rw [Bool.and_eq_true]
  exact ⟨by simp only [PyData.canLay0]; exact ints_lay ns, decide_eq_true (by simp only [PyData.depth]; omega)⟩
theorem ints_show : ∀ ns : List Int, (∀ n ∈ ns, n.natAbs.log2 < 1920) → PyData.showableAll (ns.map PyData.int) = true
  | [], _ => rfl
  | n :: ns, h => by
    simp only [List.map_cons, PyData.showableAll, PyData.showable]
    rw [decide_eq_true (h n List.mem_cons_self), ints_show ns fun m hm => h m (List.mem_cons_of_mem _ hm)]
    rfl
/-! ### sorted, any number -/
theorem k_sortedI {X : Cx} (K : PySem.W.Frag) (h : X.K = K) : CallR X (.builtin "sorted") (rSortedI K) := by subst h; exact cr_sortedI
def rSortedA (K : PySem.W.Frag) : List V → Hp → VK → Prop := fun vs H Q => ∃ (a : Addr) (xs : List Str), vs = [V.ref a] ∧ SqL K H a (xs.map V.str) ∧ ∀ (ys : List Str) (p : Addr), ys.Perm xs → sortedS ys = true → H p = none → Q (.ref p) (upd H p (.lst (ys.map V.str)))
theorem k_sortedS {X : Cx} (K : PySem.W.Frag) (h : X.K = K) : CallR X (.builtin "sorted") (rSortedA K) := by
  subst h
  intro pins s σ H vs us Q I r h
  obtain ⟨a, xs, rfl, hs, q⟩ := h
  obtain ⟨its, rv, hl, hz⟩ := I.list hs
  rw [Vals.ref1 r]
  refine sorted_strsAny hl.isList rv.strs (by rw [← rv.length]; exact hz) fun out ys h1 h2 h3 => ?_
  obtain ⟨ep, at_⟩ := sortedAll_at s.heap its out
  refine ⟨.ref _, upd H (s.heap.objs.size + 1) (.lst (ys.map V.str)), I.laid (t' := s.toks) (fun _ _ => sortedAll_old) (Nat.le_succ _) ⟨?_, out.toList, ep, vals_of_strs h1, at_⟩, rfl, q ys _ h2 h3 (I.hok.fresh (Nat.le_succ _))⟩
  rw [List.length_map, h2.length_eq]
  rw [List.length_map] at hz
  exact hz
theorem sorted_le : ∀ (l : List Str) (p : Str), risingS p l = true → (p :: l).Pairwise fun x y => x.cps.toList ≤ y.cps.toList
  | [], p, _ => List.pairwise_singleton _ _
  | x :: r, p, h => by
    obtain ⟨h1, h2⟩ := Bool.and_eq_true_iff.mp (show (!ltCps x.cps.toList p.cps.toList && risingS x r) = true from h)
    have hpx : p.cps.toList ≤ x.cps.toList := by
      rw [ltCps_eq] at h1
      intro z
      rw [decide_eq_true z] at h1
      cases h1
    have ih := sorted_le r x h2
    refine List.pairwise_cons.mpr ⟨fun y hy => ?_, ih⟩
    rcases List.mem_cons.mp hy with rfl | hy
    · exact hpx
    · exact List.le_trans hpx ((List.pairwise_cons.mp ih).1 y hy)
theorem sorted_uniq {xs ys : List Str} (h : xs.Perm ys) (hx : sortedS xs = true) (hy : sortedS ys = true) : xs = ys := by
  have pw : ∀ l : List Str, sortedS l = true → l.Pairwise fun x y => x.cps.toList ≤ y.cps.toList := fun l hl => by
    cases l with
    | nil => exact .nil
    | cons x r => exact sorted_le r x hl
  refine List.Perm.eq_of_pairwise (fun x y _ _ h1 h2 => ?_) (pw _ hx) (pw _ hy) h
  have e := List.le_antisymm h1 h2
  cases x with | mk a => cases y with | mk b => exact congrArg Str.mk (Array.toList_inj.mp e)
end My

namespace My
open PySem PySem.Spec PyProof.Rows L2 Pre
/-! ### the end of a law whose promise stands in no repr -/
/-- the script, tracked or one of the module's own objects -/
theorem script_env {P : Program} {w : World} {K : PySem.W.Frag} {mg mb : Str → Option Value} {a : Addr} {t : Shared} {us : List Value} {ns : List Int} (hin : K.In t.heap) (hgl : t.heap.Ns mainGlobals mg) (hbl : t.heap.Ns builtinsNs mb)
    (hbo : ∀ x : Str, x ≠ "__name__" → mb x = bootBuiltins x) (hno : t.heap.NoLimit) (hgs : t.gens = #[]) (at_a : t.heap.get? a = some { cls := .type "list", data := .seq us.toArray }) (ints_ : IntsAre us ns) (few : ns.length ≤ sizeLine) :
    ∃ (H : Hp) (base : Heap), Only H ∧ SqL K H a (ns.map V.int) ∧ K.In base ∧ base.Ns mainGlobals mg ∧ Env0 P w K mg base callerA [] t H := by
  have rv := vals_ints ints_
  have ul := ints_.length
  -- the module and the rest of the heap, whatever is tracked at a alone
  have rest : ∀ H : Hp, Only H → (∀ b, b ≠ a → H b = none) → (H a = none ∨ K.lookup a = none) → HOk P w H t.heap → SqL K H a (ns.map V.int) → ∃ (H : Hp) (base : Heap), Only H ∧ SqL K H a (ns.map V.int) ∧ K.In base ∧ base.Ns mainGlobals mg ∧ Env0 P w K mg base callerA [] t H := by
    intro H h1 h2 h3 h4 h5
    have dictFree : ∀ b o, t.heap.get? b = some o → (∃ es n, o.data = Data.dict es n) → H b = none := fun b o z ⟨es, n, d⟩ => by
      by_cases hb : b = a
      · rw [hb, at_a] at z
        cases z
        cases d
      · exact h2 b hb
    have nsKept : ∀ (b : Addr) (m : Str → Option Value), t.heap.Ns b m → (hidT t.heap H).Ns b m := fun b m z => by
      obtain ⟨o, es, ep, z1, z2, z3⟩ := z
      exact ⟨o, es, ep, hidT_get z1 (dictFree b o z1 ⟨_, _, z2⟩), z2, z3⟩
    have inKept : K.In (hidT t.heap H) := fun b o z => hidT_get (hin b o z) (by
      by_cases hb : b = a
      · rcases h3 with z3 | z3
        · rw [hb]; exact z3
        · rw [hb, z3] at z; cases z
      · exact h2 b hb)
    obtain ⟨mc, l1, l2⟩ := hno
    refine ⟨H, hidT t.heap H, h1, h5, inKept, nsKept _ _ hgl, ⟨rfl, ⟨inKept, nsKept _ _ hgl, ⟨mb, nsKept _ _ hbl, hbo⟩, ⟨mc, nsKept _ _ l1, l2⟩⟩, fun b o z => of_hidT z, ?_, trivial, fun b z => (nomatch z), h4, .of_eq hgs⟩⟩
    rw [hidT_size]
    exact Nat.le_refl _
  cases hk : K.lookup a with
  | some o =>
    have z := hin a o hk
    rw [at_a] at z
    cases z
    exact rest (fun _ => none) (fun _ => .inl rfl) (fun _ _ => rfl) (.inl rfl) (fun _ _ z => nomatch z) (.inr ⟨_, us.toArray, _, hk, rfl, rfl, rfl, by rw [List.size_toArray, ul]; exact few, by simpa using rv⟩)
  | none =>
    refine rest (upd (fun _ => none) a (.frz { cls := .type "list", data := .seq us.toArray } (.lst (ns.map V.int)))) (fun b => ?_) (fun b hb => upd_ne hb) (.inr hk) (fun b u z => ?_) (.inl (.inr ⟨_, upd_same⟩))
    · by_cases hb : b = a
      · rw [hb]; exact .inr ⟨_, _, upd_same⟩
      · exact .inl (upd_ne hb)
    · by_cases hb : b = a
      · subst hb
        rw [upd_same] at z
        cases z
        exact ⟨at_a, by rw [List.length_map]; exact few, us, _, rv, at_a⟩
      · rw [upd_ne hb] at z
        cases z
theorem end_g {l : PySem.W.OpenLaw} {n k : Nat} {q : Program} {loose : List Str} {XP : (Str → Option Value) → Heap → Prop} {YP : World → Heap → Prop} {d : DefRec} {x : Str} (hn : l.most = some n) (hn2 : n ≤ sizeLine) (hdf : d.params.defaults = []) (hr : Room k callerA)
    (F : ∀ (w : World) (mg : Str → Option Value) (fa : Addr) (h : Heap), YP w h → h.Ns mainGlobals mg → mg d.name = some (.ref fa) →
      ∃ (K : PySem.W.Frag) (fd : FuncData) (sp : Sp), K.In h ∧ (∀ (s : Shared) (u : Value), BindsTo s fd ⟨[u], []⟩ [(x, u)]) ∧
        (∀ (H : Hp) (a : Addr) (ns : List Int), ns.length ≤ n → SqL K H a (ns.map V.int) → sp [.ref a] H (fun v _ => v = .bl true) fun _ _ _ => False) ∧
        ∀ base : Heap, K.In base → base.Ns mainGlobals mg → FnG l.prog w K mg base CX0 k fa fd [x] sp) :
    PySem.W.WalkO q loose XP YP l.row.toRowW d [] (fun f vs => PySem.call f vs) := by
  refine Att.attach_call hn hdf fun w s₀ t mg mb fa o pm cd doc a us ns G Y ho hd hcd hmg at_a hi hl hg => ?_
  obtain ⟨K, fd, sp, hin, hb, hsp, hF⟩ := F w mg fa _ Y G.T.g hmg
  obtain ⟨H, base, only, hS, hKb, hgb, e0⟩ := script_env (P := l.prog) (w := w) hin G.T.g G.T.b G.T.builtins G.T.nolimit hg at_a hi (Nat.le_trans hl hn2)
  refine codeAny_mono ((hF base hKb hgb).does callerA rfl hr [] t H e0 ⟨[.ref a], []⟩ [.ref a] [.ref a] (hb t (.ref a)) (.cons rfl .nil) _ _ (hsp H a ns hl hS)) fun r t2 h => ?_
  match r, h with
  | .error e, h => exact (show False from h).elim
  | .ok (.ret u), h =>
    obtain ⟨v, H2, os, bare, un, hok2, rv, qv⟩ := h
    have qv : v = .bl true := qv
    subst qv
    have rv : u = Value.bool true := rv
    subst rv
    refine ⟨rfl, OldK.of_keep fun b o z => ?_, os, bare⟩
    rcases only b with hb | ⟨ob, ys, hb⟩
    · exact un.keep b o z hb (fun y => nomatch y) (fun y => nomatch y)
    · have z1 : t.heap.get? b = some ob := (e0.hok b _ hb).1
      have z2 : t2.heap.get? b = some ob := (hok2 b _ (un.frzs b ob _ hb)).1
      rw [z] at z1
      cases z1
      exact z2
end My

namespace My
open PySem PySem.Spec PyProof.Rows L2 Pre
/-! ### repr of an empty dict, too -/
def rReprX (K : PySem.W.Frag) : List V → Hp → VK → Prop := fun xs H Q => rRepr K xs H Q ∨ ∃ a : Addr, xs = [.ref a] ∧ H a = some (.dK []) ∧ Q (.str (PyData.dict []).shown) H
theorem call_reprX {X : Cx} (gd : X.A.guards = some []) (hu : X.A.units + 65 < cLine) : CallR X (.builtin "repr") (rReprX X.K) := by
  intro pins s σ H xs us Q I r h
  rcases h with h | ⟨a, rfl, ha, q⟩
  · exact call_repr gd hu pins s σ H xs us Q I r h
  · cases r with
    | cons rx rr =>
      cases rr
      cases rx
      have hx := I.hok a _ ha
      obtain ⟨t1, t2, vs, rel, o, es, ep, ho, h2, h3, h4⟩ := hx
      obtain rfl : vs = [] := by cases rel; rfl
      have he : es.toList = [] := by
        have h5 := h4.2.1
        cases hl : es.toList with
        | nil => rfl
        | cons e r => rw [hl] at h5; cases h5
      have rd : Reads s.heap (.ref a) (.dict []) [a] := .dict (as := []) (bs := []) ho h2.1 h3 (by rw [he]; exact .nil) (by rw [he]; exact .nil)
      have hd : (PyData.dict []).depth ≤ 64 := by decide +kernel
      have fin : ∀ h' v tk, (∀ b o, s.heap.get? b = some o → h'.get? b = some o) → EP X pins σ Q (.str (PyData.dict []).shown v) { s with heap := h', toks := tk } := fun h' v tk hk => ⟨.str (PyData.dict []).shown, H, I.kept hk, ⟨v, rfl⟩, q⟩
      exact repr_of_reads' rd rfl (fun _ m => by
        rw [List.mem_singleton] at m
        rw [← m] at t2
        simp at t2) gd (by omega) (fun _ _ z => z) fin (by decide +kernel)
theorem k_reprX {X : Cx} (K : PySem.W.Frag) (h : X.K = K) (gd : X.A.guards = some []) (hu : X.A.units + 65 < cLine) : CallR X (.builtin "repr") (rReprX K) := by subst h; exact call_reprX gd hu
end My

namespace My
open PySem PySem.Spec PyProof.Rows PySem.W L2 Pre
/-- products of one small number, or of two that are not too great -/
def CMulA (i j : Int) : Prop := CMul i j ∨ CMulX i j
theorem op_mulA {X : Cx} : OpR X (binaryOp .Mult) (rI CMulA fun i j => .int (i * j)) := fun pins s σ H x y v u Q I r1 r2 h => by
  obtain ⟨i, j, ex, ey, hc, q⟩ := h
  rcases hc with hc | hc
  · exact op_mul pins s σ H x y v u Q I r1 r2 ⟨i, j, ex, ey, hc, q⟩
  · exact op_mulX pins s σ H x y v u Q I r1 r2 ⟨i, j, ex, ey, hc, q⟩
end My

namespace My
open PySem PySem.Spec PyProof.Rows L2 Pre
/-! ### numbers drawn from one or two great ones -/
def PumpAt (H : Hp) (g : Addr) : Prop := ∃ ns : List Int, H g = some (.lst (ns.map V.int)) ∧ (ns.length = 1 ∨ ns.length = 2)
theorem PumpAt.same {H H' : Hp} {g : Addr} (h : PumpAt H g) (s : Same H H') : PumpAt H' g := by
  obtain ⟨ns, a, b⟩ := h
  exact ⟨ns, s _ _ a, b⟩
theorem PumpAt.ne {H : Hp} {g p : Addr} (h : PumpAt H g) (np : H p = none) : p ≠ g := by
  obtain ⟨ns, a, _⟩ := h
  exact (ne_of_none a np).symm
theorem at0 {α : Type} (x : α) (r : List α) : atI (x :: r) 0 = some x := atI_nat (xs := x :: r) (j := 0) rfl
theorem ix0 (n : Nat) : ixN (n + 1) 0 = some 0 := by unfold ixN; rw [if_pos (by decide), if_pos (by omega)]; rfl
theorem div9 {m : Int} (h0 : 0 < m) (h1 : m ≤ 10 ^ 18) : m.natAbs.log2 < 9000 := by
  have : m.natAbs < 2 ^ 60 := by omega
  exact Nat.lt_of_lt_of_le (PySem.Flt.log2_lt_of (by decide) this) (by decide)
theorem cmulx_dec {i j : Int} (h : (Builtin.Int.intBits i : Int) + (Builtin.Int.intBits j : Int) ≤ 134217728) : CMulA i j := .inr h
local macro_rules | `(tactic| walk_at "go") => `(tactic| repeat (first | (with_reducible first | refine iteT ?_ | refine iteF ?_ | refine iteNtt ?_ | refine iteNff ?_ | refine iteET (by omega) ?_ | refine iteEF (by omega) ?_ | refine iteENT (by omega) ?_ | refine iteENF (by omega) ?_ | refine iteDT (by omega) ?_ | refine iteDF (by omega) ?_ | refine iteNT (by omega) ?_ | refine iteNF (by omega) ?_) | refine ⟨_, rfl, ?_⟩ | refine ⟨_, _, rfl, rfl, ?_⟩ | refine ⟨_, _, rfl, ?_⟩ | refine ⟨rfl, ?_⟩ | refine .inl ⟨_, rfl, ?_⟩ | refine .inr ⟨_, rfl, ?_⟩))
local macro_rules | `(tactic| walk_at "b") => `(tactic| try dsimp (config := { proj := false, iota := false, eta := false, zeta := false }) only)
section
variable {P : Program} {w : World} {K : PySem.W.Frag} {mg : Str → Option Value} {base : Heap} [pf : Sup.PF P fileS]
def sp_law_cup : Sp := fun vs H Q _ => ∃ (g : Addr) (m : Int), vs = [.ref g, .int m] ∧ PumpAt H g ∧ 0 < m ∧ m ≤ 10 ^ 18 ∧ ∀ (H' : Hp) (d : Nat), But g H H' → PumpAt H' g → (d : Int) < m → Q (.int d) H'
theorem G_law_cup (T : Top K mg) : FnOk P w K mg base CX0 1 T.f_law_cup T.fd_law_cup ["_law_pump_here", "_law_many"] sp_law_cup := by
  refine T.F_law_cup.ok sc_law_cup (fun vs H Q E h => by obtain ⟨g, m, rfl, _⟩ := h; rfl) (fun cdv A outer s H vs Q E hr h => ?_)
  obtain ⟨g, m, rfl, ⟨ns, hg, hn⟩, h0, h1, q⟩ := h
  refine ⟨_, PSs.nox (pss_cons (ps_if (PW.pt (pw_and (pt_cmpR op_eq (pe_ix (k_ixL K rfl) (pv 0) pe_int (fun _ _ => rfl)) pe_int (nomark _)) (pw_and1 (pt_cmpR op_gt (pe_callB (k_len K rfl) (by rfl) T.n_len (by decide +kernel) (pa_cons (pv 0) pa_nil)) pe_int (nomark _)))))
    (pss_one (ps_asg (pe_bm0 PySem.F.plainAttrs_list PySem.F.slot_list_pop PySem.F.type_list_pop mt_pop (pv 0)) (pg_sub (pv 0) pe_int set_list)))
    pss_nil)
  (pss_cons (ps_set (i := 2) sc_law_cup.nd rfl (by first | exact Or.inl rfl | exact Or.inr rfl) (pe_op op_mod (pe_callTy call_int1 (by rfl) T.n_int (by decide +kernel) (pa_cons (pe_ix (k_ixL K rfl) (pv 0) pe_int (fun _ _ => rfl)) pa_nil)) (pv 1)))
  (pss_cons (ps_asg (pe_op op_fdivW (pe_ix (k_ixL K rfl) (pv 0) pe_int (fun _ _ => rfl)) (pv 1)) (pg_sub (pv 0) pe_int set_list))
  (pss_one (ps_ret (pv 2)))))), ?_⟩
  obtain ⟨x, r, rfl⟩ : ∃ (x : Int) (r : List Int), ns = x :: r := by
    cases ns with
    | nil => rcases hn with h | h <;> cases h
    | cons x r => exact ⟨x, r, rfl⟩
  have key : ∀ {H1 : Hp} {x : Int} {r : List Int}, But g H H1 → H1 g = some (.lst ((x :: r).map V.int)) → ((x :: r).length = 1 ∨ (x :: r).length = 2) → ∀ d : Nat, (d : Int) = x % m → Q (.int d) (upd H1 g (.lst (((x :: r).map V.int).set 0 (V.int (x / m))))) := by
    intro H1 x r b hg1 hn1 d hd
    refine q _ d b.upd ⟨(x / m) :: r, ?_, hn1⟩ ?_
    · rw [upd_same]
      rfl
    · rw [hd]
      exact Int.emod_lt_of_pos x h0
  refine ⟨_, rfl, g, _, _, .int x, rfl, rfl, .inl (.inl hg), at0 _ _, rfl, _, rfl, ?_⟩
  by_cases hx : x = 0
  · subst hx
    refine iteT ?_
    refine ⟨_, rfl, g, _, rfl, .inl (.inl (.inl hg)), _, _, rfl, rfl, _, rfl, ?_⟩
    cases r with
    | nil =>
      refine iteF ?_
      refine ⟨_, rfl, g, _, _, .int 0, rfl, rfl, .inl (.inl hg), at0 _ _, .inl ⟨_, rfl, ?_⟩⟩
      refine ⟨_, rfl, _, _, rfl, rfl, h0, ?_⟩
      refine ⟨_, rfl, g, _, _, .int 0, rfl, rfl, .inl (.inl hg), at0 _ _, _, rfl, _, _, rfl, rfl, ⟨h0, div9 h0 h1⟩, ?_⟩
      refine ⟨_, rfl, g, _, _, 0, rfl, rfl, hg, ix0 _, ?_⟩
      obtain ⟨d, hd⟩ := Int.eq_ofNat_of_zero_le (Int.emod_nonneg 0 (show m ≠ 0 by omega))
      refine ⟨_, rfl, ?_⟩
      dsimp only
      rw [hd]
      exact key (x := 0) (r := []) But.refl hg (.inl rfl) d hd.symm
    | cons y r =>
      obtain rfl : r = [] := by
        rcases hn with h | h
        · simp at h
        · simpa using h
      refine iteT ?_
      refine ⟨_, rfl, .inl ⟨rfl, _, .inl (.inl hg)⟩, g, _, .int y, rfl, rfl, hg, rfl, ?_⟩
      refine ⟨_, rfl, g, _, _, 0, rfl, rfl, upd_same, ix0 _, ?_⟩
      have hg2 : upd (upd H g (.lst (([(0 : Int), y].map V.int).dropLast))) g (.lst ((([(0 : Int), y].map V.int).dropLast).set 0 (.int y))) g = some (.lst ([y].map V.int)) := upd_same
      refine ⟨_, rfl, g, _, _, .int y, rfl, rfl, .inl (.inl hg2), at0 _ _, .inl ⟨_, rfl, ?_⟩⟩
      refine ⟨_, rfl, _, _, rfl, rfl, h0, ?_⟩
      refine ⟨_, rfl, g, _, _, .int y, rfl, rfl, .inl (.inl hg2), at0 _ _, _, rfl, _, _, rfl, rfl, ⟨h0, div9 h0 h1⟩, ?_⟩
      refine ⟨_, rfl, g, _, _, 0, rfl, rfl, hg2, ix0 _, ?_⟩
      obtain ⟨d, hd⟩ := Int.eq_ofNat_of_zero_le (Int.emod_nonneg y (show m ≠ 0 by omega))
      refine ⟨_, rfl, ?_⟩
      dsimp only
      rw [hd]
      exact key (x := y) (r := []) (But.refl.upd.upd) hg2 (.inl rfl) d hd.symm
  · refine iteDF (fun h => hx (V.int.inj h)) ?_
    refine ⟨_, rfl, g, _, _, .int x, rfl, rfl, .inl (.inl hg), at0 _ _, .inl ⟨_, rfl, ?_⟩⟩
    refine ⟨_, rfl, _, _, rfl, rfl, h0, ?_⟩
    refine ⟨_, rfl, g, _, _, .int x, rfl, rfl, .inl (.inl hg), at0 _ _, _, rfl, _, _, rfl, rfl, ⟨h0, div9 h0 h1⟩, ?_⟩
    refine ⟨_, rfl, g, _, _, 0, rfl, rfl, hg, ix0 _, ?_⟩
    obtain ⟨d, hd⟩ := Int.eq_ofNat_of_zero_le (Int.emod_nonneg x (show m ≠ 0 by omega))
    refine ⟨_, rfl, ?_⟩
    dsimp only
    rw [hd]
    exact key (x := x) (r := r) But.refl hg hn d hd.symm
def sp_law_pump (K : PySem.W.Frag) : Sp := fun vs H Q _ => ∃ (a : Addr) (ns : List Int), vs = [.ref a, .int 0] ∧ SqL K H a (ns.map V.int) ∧ ns.length ≤ 63 ∧ ∀ H' g, Same H H' → H g = none → PumpAt H' g → Q (.ref g) H'
theorem G_law_pump (T : Top K mg) : FnOk P w K mg base CX0 1 T.f_law_pump T.fd_law_pump ["_law_script", "_law_at"] (sp_law_pump K) := by
  refine T.F_law_pump.ok sc_law_pump (fun vs H Q E h => by obtain ⟨a, ns, rfl, _⟩ := h; rfl) (fun cdv A outer s H vs Q E hr h => ?_)
  obtain ⟨a, ns, rfl, hS, hz, q⟩ := h
  refine ⟨_, PSs.nox (pss_cons (ps_set (i := 2) sc_law_pump.nd rfl (by first | exact Or.inl rfl | exact Or.inr rfl) (pe_op op_add (pe_op op_add (pe_op op_mulA pe_int (pv 1)) pe_int) (pe_op op_mod (pe_callB (k_sum K rfl rfl) (by rfl) T.n_sum (by decide +kernel) (pa_cons (pe_slice (k_slL K rfl) (pv 0) po_none (po_some pe_int)) pa_nil)) pe_int)))
  (pss_cons (ps_if (pt_cmpR op_lt (pv 1) (pe_callB (k_len K rfl) (by rfl) T.n_len (by decide +kernel) (pa_cons (pv 0) pa_nil)) (nomark _))
    (pss_one (ps_set (i := 2) sc_law_pump.nd rfl (by first | exact Or.inl rfl | exact Or.inr rfl) (pe_ix (k_ixL K rfl) (pv 0) (pv 1) (fun _ _ => rfl))))
    pss_nil)
  (pss_cons (ps_par (by rfl) sc_law_pump.nd (i := 6) (j := 7) rfl rfl (by decide) rfl rfl (pa_cons (pe_op op_mod (pe_callTy call_int1 (by rfl) T.n_int (by decide +kernel) (pa_cons (pe_op op_add (pv 2) (pe_op op_mulA pe_int (pv 1))) pa_nil)) pe_int) (pa_cons (pe_op op_mod (pe_callTy call_int1 (by rfl) T.n_int (by decide +kernel) (pa_cons (pv 2) pa_nil)) pe_int) pa_nil)) (by rfl))
  (pss_cons (ps_set (i := 3) sc_law_pump.nd rfl (by first | exact Or.inl rfl | exact Or.inr rfl) pe_int)
  (pss_cons (ps_for PassesOwn.never rfl (pi_range1 (by rfl) T.n_range (pa_cons pe_int pa_nil)) (pg_name (i := 4) sc_law_pump.nd rfl (by first | exact Or.inl rfl | exact Or.inr rfl))
    (pss_cons (ps_set (i := 6) sc_law_pump.nd rfl (by first | exact Or.inl rfl | exact Or.inr rfl) (pe_op op_mod (pe_callTy call_int1 (by rfl) T.n_int (by decide +kernel) (pa_cons (pe_op op_add (pe_op op_add (pe_op op_add (pe_op op_mulA (pv 6) pe_int) (pe_op op_mulA (pv 4) pe_int)) (pe_op op_mulA pe_int (pv 1))) pe_int) pa_nil)) pe_int))
  (pss_cons (ps_set (i := 7) sc_law_pump.nd rfl (by first | exact Or.inl rfl | exact Or.inr rfl) (pe_op op_mod (pe_callTy call_int1 (by rfl) T.n_int (by decide +kernel) (pa_cons (pe_op op_add (pe_op op_add (pe_op op_mulA (pv 7) (pv 7)) (pe_op op_mulA pe_int (pv 4))) pe_int) pa_nil)) pe_int))
  (pss_one (ps_set (i := 3) sc_law_pump.nd rfl (by first | exact Or.inl rfl | exact Or.inr rfl) (pe_op op_add (pe_op op_mulA (pv 3) pe_int) (pe_op op_mod (pe_callTy call_int1 (by rfl) T.n_int (by decide +kernel) (pa_cons (pe_op op_add (pe_op op_mulA (pv 6) (pv 7)) (pe_op op_mulA pe_int (pv 4))) pa_nil)) pe_int)))))))
  (pss_cons (ps_if (pt_cmpR op_lt (pv 2) (pe_op op_powW pe_int pe_int) (nomark _))
    (pss_one (ps_ret (pe_lst (pa_cons (pv 3) pa_nil))))
    pss_nil)
  (pss_cons (ps_set (i := 5) sc_law_pump.nd rfl (by first | exact Or.inl rfl | exact Or.inr rfl) (pe_op op_mulA (pe_op op_mulA (pe_op op_mulA (pe_op op_powW pe_int pe_int) (pe_op op_powW pe_int pe_int)) (pe_op op_powW pe_int pe_int)) (pe_op op_powW pe_int pe_int)))
  (pss_one (ps_ret (pe_lst (pa_cons (pe_op op_mod (pe_callTy call_int1 (by rfl) T.n_int (by decide +kernel) (pa_cons (pe_op op_sub (pv 2) (pe_op op_powW pe_int pe_int)) pa_nil)) (pe_op op_mulA (pe_op op_mulA (pv 5) (pv 5)) (pv 5))) (pa_cons (pv 3) pa_nil)))))))))))), ?_⟩
  have ec : ∃ ms : List Int, cutV (ns.map V.int) none (some 1) = ms.map V.int := ⟨ns.take 1, by rw [show (1 : Int) = ((1 : Nat) : Int) from rfl, cut_take, List.map_take]⟩
  obtain ⟨ms, em⟩ := ec
  have c1 : ∀ {i : Int} {k : Int}, -(2 ^ 64) < k → k < 2 ^ 64 → CMulA i k := fun h1 h2 => .inl (.inr ⟨h1, h2⟩)
  have c2 : ∀ {i : Int} {k : Int}, -(2 ^ 64) < k → k < 2 ^ 64 → CMulA k i := fun h1 h2 => .inl (.inl ⟨h1, h2⟩)
  refine ⟨_, rfl, _, _, rfl, rfl, c2 (by decide) (by decide), _, _, rfl, rfl, _, rfl, _, rfl, a, _, rfl, hS, fun p np => ?_⟩
  obtain ⟨H1, e1, s1, hp1⟩ := fresh (.lst (cutV (ns.map V.int) none (some 1))) np
  rw [e1]
  refine ⟨p, ms, rfl, .inl (.inl (by rw [hp1, em])), _, _, rfl, rfl, (by show (0 : Int) < 1000003; decide), _, _, rfl, rfl, ?_⟩
  have c3 : ∀ i k : Int, CMulA i (k % 2147483033) := fun i k => .inl (.inr ⟨by have := Int.emod_nonneg k (show (2147483033 : Int) ≠ 0 by decide); omega, by have := Int.emod_lt_of_pos k (show (0 : Int) < 2147483033 by decide); omega⟩)
  generalize ((23 : Int) * 0 + 11 + ms.sum % 1000003) = c0
  refine ⟨_, rfl, _, rfl, a, _, rfl, .inl (s1.seq hS), _, _, rfl, rfl, _, rfl, ?_⟩
  by_cases h : 0 < ns.length
  rotate_left
  · refine iteDF (by rw [List.length_map]; omega) ?_
    refine ⟨_, rfl, _, rfl, _, _, rfl, rfl, c2 (by decide) (by decide), _, _, rfl, rfl, .inl ⟨_, rfl, _, _, rfl, rfl, (by show (0 : Int) < 2147483053; decide), _, rfl, .inl ⟨_, rfl, _, _, rfl, rfl, (by show (0 : Int) < 2147483033; decide), ?_⟩⟩⟩
    refine ⟨_, _, rfl, _, rfl, (by decide), (by decide), ?_⟩
    refine for_range (lo := 0) (n := ((120 : Int)).toNat) (fun i σ H2 => ∃ (f n t : Int) (v : Option V), σ = [some (.ref a), some (.int 0), some (.int (23 * 0 + 11 + ms.sum % 1000003)), some (.int f), v, none, some (.int n), some (.int t)] ∧ 0 ≤ t ∧ t < 2147483033 ∧ H2 = H1) ⟨_, _, _, none, rfl, Int.emod_nonneg _ (by decide), Int.emod_lt_of_pos _ (by decide), rfl⟩ ?_ ?_
    · rintro i σ H2 hi ⟨f, n, t, v, rfl, t0, t1, rfl⟩
      refine ⟨_, rfl, _, _, rfl, rfl, c1 (by decide) (by decide), _, rfl, _, _, rfl, rfl, c1 (by decide) (by decide), _, _, rfl, rfl, _, rfl, _, _, rfl, rfl, c2 (by decide) (by decide), _, _, rfl, rfl, _, _, rfl, rfl, .inl ⟨_, rfl, _, _, rfl, rfl, (by show (0 : Int) < 2147483053; decide), ?_⟩⟩
      refine ⟨_, rfl, _, rfl, _, _, rfl, rfl, .inl (.inl ⟨by omega, by omega⟩), _, rfl, _, _, rfl, rfl, c2 (by decide) (by decide), _, _, rfl, rfl, _, _, rfl, rfl, .inl ⟨_, rfl, _, _, rfl, rfl, (by show (0 : Int) < 2147483033; decide), ?_⟩⟩
      refine ⟨_, rfl, _, _, rfl, rfl, c1 (by decide) (by decide), _, rfl, _, rfl, _, _, rfl, rfl, c3 _ _, _, rfl, _, _, rfl, rfl, c2 (by decide) (by decide), _, _, rfl, rfl, .inl ⟨_, rfl, _, _, rfl, rfl, (by show (0 : Int) < 2147483032; decide), _, _, rfl, rfl, ?_⟩⟩
      exact ⟨_, _, _, _, rfl, Int.emod_nonneg _ (by decide), Int.emod_lt_of_pos _ (by decide), rfl⟩
    · rintro σ H2 ⟨f, n, t, v, rfl, t0, t1, rfl⟩
      refine ⟨_, rfl, _, _, rfl, rfl, ⟨by decide, by decide +kernel⟩, _, _, rfl, rfl, _, rfl, ite2 (fun e => ?_) (fun e => ?_)⟩
      · refine ⟨_, rfl, (by show 1 ≤ sizeLine; decide), fun g ng => ?_⟩
        exact q _ _ (s1.trans (same_upd ng)) (s1.free ng) ⟨[f], upd_same, .inl rfl⟩
      · refine ⟨_, _, rfl, rfl, ⟨by decide, by decide +kernel⟩, _, _, rfl, rfl, ⟨by decide, by decide +kernel⟩, _, _, rfl, rfl, cmulx_dec (by decide +kernel), _, _, rfl, rfl, ⟨by decide, by decide +kernel⟩, _, _, rfl, rfl, cmulx_dec (by decide +kernel), _, _, rfl, rfl, ⟨by decide, by decide +kernel⟩, _, _, rfl, rfl, cmulx_dec (by decide +kernel), ?_⟩
        refine ⟨_, rfl, _, _, rfl, rfl, ⟨by decide, by decide +kernel⟩, _, _, rfl, rfl, .inl ⟨_, rfl, _, rfl, _, rfl, _, _, rfl, rfl, cmulx_dec (by decide +kernel), _, rfl, _, _, rfl, rfl, cmulx_dec (by decide +kernel), _, _, rfl, rfl, (by dsimp only; decide +kernel), _, rfl, (by show 2 ≤ sizeLine; decide), fun g ng => ?_⟩⟩
        exact q _ _ (s1.trans (same_upd ng)) (s1.free ng) ⟨[_, f], upd_same, .inr rfl⟩
  · obtain ⟨x, r, rfl⟩ : ∃ x r, ns = x :: r := by
      cases ns with
      | nil => cases h
      | cons x r => exact ⟨x, r, rfl⟩
    refine iteDT (by rw [List.length_map, List.length_cons]; omega) ?_
    refine ⟨_, rfl, _, rfl, a, _, _, .int x, rfl, rfl, s1.seq hS, at0 _ _, ?_⟩
    refine ⟨_, rfl, _, rfl, _, _, rfl, rfl, c2 (by decide) (by decide), _, _, rfl, rfl, .inl ⟨_, rfl, _, _, rfl, rfl, (by show (0 : Int) < 2147483053; decide), _, rfl, .inl ⟨_, rfl, _, _, rfl, rfl, (by show (0 : Int) < 2147483033; decide), ?_⟩⟩⟩
    refine ⟨_, _, rfl, _, rfl, (by decide), (by decide), ?_⟩
    refine for_range (lo := 0) (n := ((120 : Int)).toNat) (fun i σ H2 => ∃ (f n t : Int) (v : Option V), σ = [some (.ref a), some (.int 0), some (.int x), some (.int f), v, none, some (.int n), some (.int t)] ∧ 0 ≤ t ∧ t < 2147483033 ∧ H2 = H1) ⟨_, _, _, none, rfl, Int.emod_nonneg _ (by decide), Int.emod_lt_of_pos _ (by decide), rfl⟩ ?_ ?_
    · rintro i σ H2 hi ⟨f, n, t, v, rfl, t0, t1, rfl⟩
      refine ⟨_, rfl, _, _, rfl, rfl, c1 (by decide) (by decide), _, rfl, _, _, rfl, rfl, c1 (by decide) (by decide), _, _, rfl, rfl, _, rfl, _, _, rfl, rfl, c2 (by decide) (by decide), _, _, rfl, rfl, _, _, rfl, rfl, .inl ⟨_, rfl, _, _, rfl, rfl, (by show (0 : Int) < 2147483053; decide), ?_⟩⟩
      refine ⟨_, rfl, _, rfl, _, _, rfl, rfl, .inl (.inl ⟨by omega, by omega⟩), _, rfl, _, _, rfl, rfl, c2 (by decide) (by decide), _, _, rfl, rfl, _, _, rfl, rfl, .inl ⟨_, rfl, _, _, rfl, rfl, (by show (0 : Int) < 2147483033; decide), ?_⟩⟩
      refine ⟨_, rfl, _, _, rfl, rfl, c1 (by decide) (by decide), _, rfl, _, rfl, _, _, rfl, rfl, c3 _ _, _, rfl, _, _, rfl, rfl, c2 (by decide) (by decide), _, _, rfl, rfl, .inl ⟨_, rfl, _, _, rfl, rfl, (by show (0 : Int) < 2147483032; decide), _, _, rfl, rfl, ?_⟩⟩
      exact ⟨_, _, _, _, rfl, Int.emod_nonneg _ (by decide), Int.emod_lt_of_pos _ (by decide), rfl⟩
    · rintro σ H2 ⟨f, n, t, v, rfl, t0, t1, rfl⟩
      refine ⟨_, rfl, _, _, rfl, rfl, ⟨by decide, by decide +kernel⟩, _, _, rfl, rfl, _, rfl, ite2 (fun e => ?_) (fun e => ?_)⟩
      · refine ⟨_, rfl, (by show 1 ≤ sizeLine; decide), fun g ng => ?_⟩
        exact q _ _ (s1.trans (same_upd ng)) (s1.free ng) ⟨[f], upd_same, .inl rfl⟩
      · refine ⟨_, _, rfl, rfl, ⟨by decide, by decide +kernel⟩, _, _, rfl, rfl, ⟨by decide, by decide +kernel⟩, _, _, rfl, rfl, cmulx_dec (by decide +kernel), _, _, rfl, rfl, ⟨by decide, by decide +kernel⟩, _, _, rfl, rfl, cmulx_dec (by decide +kernel), _, _, rfl, rfl, ⟨by decide, by decide +kernel⟩, _, _, rfl, rfl, cmulx_dec (by decide +kernel), ?_⟩
        refine ⟨_, rfl, _, _, rfl, rfl, ⟨by decide, by decide +kernel⟩, _, _, rfl, rfl, .inl ⟨_, rfl, _, rfl, _, rfl, _, _, rfl, rfl, cmulx_dec (by decide +kernel), _, rfl, _, _, rfl, rfl, cmulx_dec (by decide +kernel), _, _, rfl, rfl, (by dsimp only; decide +kernel), _, rfl, (by show 2 ≤ sizeLine; decide), fun g ng => ?_⟩⟩
        exact q _ _ (s1.trans (same_upd ng)) (s1.free ng) ⟨[_, f], upd_same, .inr rfl⟩
end
end My

namespace My
open PySem PySem.Spec PyProof.Rows L2 Pre
open Sem (wp)
/-! ### zip(xs, ys, strict=True) of lists and tuples of one length -/
/-- a strict zip object -/
abbrev SZip (h : Heap) (z TI TO : Addr) (f0 : Value) : Prop :=
  h.get? z = some { cls := .type "zip", dict := none, data := .fields #[f0, .bool false, .bool true, .ref TI, .ref TO], slots := #[] }
section
variable {prog : Program} {w : World} {A : Around} {E : Value → Shared → Prop} {s : Shared}
theorem draw_some {it : Addr} {fp : List Addr} {n i : Nat} {Pd : Nat → Value → Prop} {St : Nat → Heap → Prop} {Q : Option Value → Shared → Prop} (Dr : Draws prog w A it fp n Pd St) (lt : i < n) (st : St i s.heap)
    (go : ∀ x g' tk, Pd i x → St (i + 1) g' → Heap.SameBut it s.heap g' → Q (some x) { s with heap := g', toks := tk }) : wpAny (model prog w) A (Builtin.SmallTypes.nextOrEnd (.ref it)) Q E s := by
  unfold Builtin.SmallTypes.nextOrEnd
  exact wpAny_bind (wpAny_attempt (Dr.item i _ _ _ lt st fun x g' tk px st' sb => wpAny_pure (go x g' tk px st' sb)))
theorem draw_none {it : Addr} {fp : List Addr} {n : Nat} {Pd : Nat → Value → Prop} {St : Nat → Heap → Prop} {Q : Option Value → Shared → Prop} (Dr : Draws prog w A it fp n Pd St) (st : St n s.heap)
    (go : ∀ g', Heap.ExtBut it s.heap g' → Q none { s with heap := g' }) : wpAny (model prog w) A (Builtin.SmallTypes.nextOrEnd (.ref it)) Q E s := by
  unfold Builtin.SmallTypes.nextOrEnd
  refine wpAny_bind (wpAny_attempt (Dr.done _ _ _ st fun g' e ext he => ?_))
  obtain ⟨o, ho, hc⟩ := he
  exact wpAny_bind (wpAny_isInstance (T := "StopIteration") (b := true) ⟨o, ho, hc⟩ isSubtype_stop (wpAny_pure (go g' ext)))
theorem stop_raised {α : Type} {Q : α → Shared → Prop} (hh : A.handled = none) (go : ∀ g' e, (∀ c o, s.heap.get? c = some o → g'.get? c = some o) → (∃ o, g'.get? e = some o ∧ o.cls = .type "StopIteration") → E (.ref e) { s with heap := g' }) :
    wpAny (model prog w) A (Builtin.SmallTypes.stopIteration (α := α)) Q E s := by
  (show wpAny _ _ (newExc (.type "StopIteration") [] >>= _) _ _ _); refine wpAny_bind ?_; simp only [newExc, newTuple]
  refine wpAny_bind (wpAny_newObj_type (wpAny_bind (m := firstArgMember _ _) (wpAny_of_eq (a := Value.none) (by first | rfl | (simp only [firstArgMember]; rfl)) (wpAny_newObj_type ?_ (by size_fits)))) (by size_fits))
  simp only [raiseNew]; refine wpAny_bind (wpAny_handled ?_); rw [hh]; refine wpAny_bind (wpAny_pure (wpAny_throw ?_))
  exact go _ _ (fun c o e => Heap.get?_push_of_some _ (Heap.get?_push_of_some _ e)) ⟨_, Heap.get?_push_size _ rfl, rfl⟩
theorem zs_next (hh : A.handled = none) {z TI TO i1 i2 : Addr} {fp1 fp2 : List Addr} {n i : Nat} {Pa Pb : Nat → Value → Prop} {Sa Sb : Nat → Heap → Prop} {a b : Value} {Q : Value → Shared → Prop} (S : ZipSep2 z TI TO i1 i2 fp1 fp2)
    (Da : Draws prog w A i1 fp1 n Pa Sa) (Db : Draws prog w A i2 fp2 n Pb Sb) (hz : SZip s.heap z TI TO .none) (hI : IsTupOf2 s.heap TI (.ref i1) (.ref i2)) (hO : IsTupOf2 s.heap TO a b) (sa : Sa i s.heap) (sb : Sb i s.heap) (le : i ≤ n)
    (goes : i < n → ∀ x y g' tk, Pa i x → Pb i y → SZip g' z TI TO (rawInt s.heap.objs.size) → IsTupOf2 g' TO x y → Sa (i + 1) g' → Sb (i + 1) g' → IsTupOf2 g' s.heap.objs.size x y → g'.objs.size = s.heap.objs.size + 1 →
      (∀ c o, c ≠ z → c ≠ TO → c ≠ i1 → c ≠ i2 → s.heap.get? c = some o → g'.get? c = some o) → Q (.ref s.heap.objs.size) { s with heap := g', toks := tk })
    (ends : i = n → ∀ g' tk e, (∀ c o, c ≠ z → c ≠ TO → c ≠ i1 → c ≠ i2 → s.heap.get? c = some o → g'.get? c = some o) → (∃ o, g'.get? e = some o ∧ o.cls = .type "StopIteration") → E (.ref e) { s with heap := g', toks := tk }) :
    wpAny (model prog w) A (Builtin.«zip.__next__» ⟨[.ref z], []⟩) (fun fin s' => ∃ v, fin = .done (.ret v) ∧ Q v s') E s := by
  obtain ⟨hp, gs, dr, tk0, os⟩ := s
  (show wpAny _ _ (field (.ref z) 2 >>= _) _ _ _); refine wpAny_bind (wpAny_field hz rfl (x := .bool true) rfl ?_)
  (show wpAny _ _ (field (.ref z) 3 >>= _) _ _ _); refine wpAny_bind (wpAny_field hz rfl (x := .ref TI) rfl (wpAny_bind (wpAny_seqItems hI rfl ?_)))
  (show wpAny _ _ (Builtin.SmallTypes.ownedTupleIsFree (.ref z) >>= _) _ _ _); refine wpAny_bind ?_; unfold Builtin.SmallTypes.ownedTupleIsFree
  refine wpAny_bind (wpAny_field hz rfl (x := .none) rfl (wpAny_pure ?_)); simp only [if_true]; refine wpAny_bind (wpAny_rule (wpAny_bind (wpAny_field hz rfl (x := .ref TO) rfl ?_)))
  refine wpAny_bind (wpAny_setField_rec hz (by simp) fun g0 hz0 k0 => ?_)
  replace hz0 : SZip g0 z TI TO .ellipsis := hz0; replace k0 : Heap.SameBut z hp g0 := k0
  refine wpAny_bind ?_; simp only [List.zipIdx_cons, List.zipIdx_nil, List.forIn_cons, List.forIn_nil]; refine wpAny_bind (wpAny_bind (wpAny_onRaise ?_))
  (show wpAny _ _ (Builtin.SmallTypes.nextOrEnd (.ref i1)) _ _ ⟨g0, gs, dr, tk0, os⟩)
  rcases Nat.lt_or_ge i n with lt | ge
  · refine draw_some Da lt (Da.over sa k0 S.zf1) fun x p1 tk1 hx sn1 k1 => ?_
    have u1 : IsTupOf2 p1 TO a b := k1.extBut _ _ S.Ti1 (k0.extBut _ _ S.TOz hO)
    refine wpAny_bind (wpAny_seqItems (s := ⟨p1, gs, dr, tk1, os⟩) u1 rfl (wpAny_bind (updateSeq_IsTupOf2 (s := ⟨p1, gs, dr, tk1, os⟩) u1 fun g1 t1 m1 => wpAny_bind (wpAny_letGo (wpAny_pure ?_)))))
    replace t1 : IsTupOf2 g1 TO x b := t1; replace m1 : Heap.SameBut TO p1 g1 := m1
    refine wpAny_bind (wpAny_bind (wpAny_onRaise ?_)); (show wpAny _ _ (Builtin.SmallTypes.nextOrEnd (.ref i2)) _ _ ⟨g1, gs, dr, tk1, os⟩)
    refine draw_some Db lt (Db.over (Db.over (Db.over sb k0 S.zf2) k1 S.sep1_2) m1 S.Tf2) fun y p2 tk2 hy sn2 k2 => ?_
    replace k2 : Heap.SameBut i2 g1 p2 := k2
    have u2 : IsTupOf2 p2 TO x b := k2.extBut _ _ S.Ti2 t1
    refine wpAny_bind (wpAny_seqItems (s := ⟨p2, gs, dr, tk2, os⟩) u2 rfl (wpAny_bind (updateSeq_IsTupOf2 (s := ⟨p2, gs, dr, tk2, os⟩) u2 fun g2 t2 m2 => wpAny_bind (wpAny_letGo (wpAny_pure (wpAny_pure ?_))))))
    replace t2 : IsTupOf2 g2 TO x y := t2; replace m2 : Heap.SameBut TO p2 g2 := m2
    refine wpAny_bind (wpAny_seqItems (s := ⟨g2, gs, dr, tk2, os⟩) t2 rfl (wpAny_bind (wpAny_newTuple ?_)))
    have size2 : g2.objs.size = hp.objs.size := by rw [m2.1, k2.1, m1.1, k1.1, k0.1]
    have zz : SZip g2 z TI TO .ellipsis := m2.extBut _ _ S.TOz.symm (k2.extBut _ _ S.zi2 (m1.extBut _ _ S.TOz.symm (k1.extBut _ _ S.zi1 hz0)))
    have stay : ∀ c o, c ≠ z → c ≠ TO → c ≠ i1 → c ≠ i2 → hp.get? c = some o → g2.get? c = some o := fun c o cz cT c1 c2 e => m2.extBut _ _ cT (k2.extBut _ _ c2 (m1.extBut _ _ cT (k1.extBut _ _ c1 (k0.extBut _ _ cz e))))
    have na : Sa (i + 1) g2 := Da.over (Da.over (Da.over sn1 m1 S.Tf1) k2 S.sep2_1) m2 S.Tf1
    have nb : Sb (i + 1) g2 := Db.over sn2 m2 S.Tf2
    have zl : z < g2.objs.size := Heap.lt_size zz
    (show wpAny _ _ (Builtin.SmallTypes.ownedTupleHandOut (.ref z) (.ref g2.objs.size) >>= _) _ _ ⟨g2.push { cls := .type "tuple", data := .seq #[x, y] }, gs, dr, tk2, os⟩); refine wpAny_bind ?_; unfold Builtin.SmallTypes.ownedTupleHandOut
    have z3 : SZip (g2.push { cls := .type "tuple", data := .seq #[x, y] }) z TI TO .ellipsis := Heap.get?_push_of_some _ zz
    refine wpAny_bind (wpAny_setField_rec z3 (by simp) fun g4 z4 k4 => ?_)
    replace z4 : SZip g4 z TI TO (rawInt g2.objs.size) := z4
    refine wpAny_setField_rec z4 (by simp) fun g5 z5 k5 => ?_
    replace z5 : SZip g5 z TI TO (rawInt g2.objs.size) := z5; replace k4 : Heap.SameBut z (g2.push { cls := .type "tuple", data := .seq #[x, y] }) g4 := k4; replace k5 : Heap.SameBut z g4 g5 := k5
    have up5 : ∀ c o, c ≠ z → g2.get? c = some o → g5.get? c = some o := fun c o cz e => k5.extBut _ _ cz (k4.extBut _ _ cz (Heap.get?_push_of_some _ e))
    have t5 : IsTupOf2 g5 g2.objs.size x y := k5.extBut _ _ (Nat.ne_of_gt zl) (k4.extBut _ _ (Nat.ne_of_gt zl) (Heap.get?_push_size _ rfl))
    have size5 : g5.objs.size = g2.objs.size + 1 := by rw [k5.1, k4.1, Heap.size_push]
    rw [size2] at z5 t5 size5
    refine wpAny_pure ⟨_, rfl, ?_⟩; (show Q (.ref g2.objs.size) ⟨g5, gs, dr, tk2, os⟩); rw [size2]
    exact goes lt x y g5 tk2 hx hy z5 (up5 _ _ S.TOz t2) (Da.frame _ _ _ na fun c hc o e => up5 c o (fun q => S.zf1 (q ▸ hc)) e) (Db.frame _ _ _ nb fun c hc o e => up5 c o (fun q => S.zf2 (q ▸ hc)) e) t5 size5 fun c o cz cT c1 c2 e => up5 c o cz (stay c o cz cT c1 c2 e)
  · have ei : i = n := Nat.le_antisymm le ge
    subst ei
    refine draw_none Da (Da.over sa k0 S.zf1) fun g1 x1 => ?_
    replace x1 : Heap.ExtBut i1 g0 g1 := x1
    have z1 : SZip g1 z TI TO .ellipsis := x1 _ _ S.zi1 hz0
    refine wpAny_bind (wpAny_setField_rec (s := ⟨g1, gs, dr, tk0, os⟩) z1 (by simp) fun g2 z2 k2 => ?_)
    replace k2 : Heap.SameBut z g1 g2 := k2
    refine wpAny_bind ?_
    (show wpAny _ _ (forIn _ _ _ >>= _) _ _ ⟨g2, gs, dr, tk0, os⟩)
    simp only [List.drop_succ_cons, List.drop_zero, List.zipIdx_cons, List.zipIdx_nil, List.forIn_cons, List.forIn_nil]
    refine wpAny_bind (wpAny_bind (wpAny_bind (draw_none Db (s := ⟨g2, gs, dr, tk0, os⟩) (Db.frame _ _ _ sb fun c hc o e => ?_) fun g3 x3 => ?_)))
    · have cz : c ≠ z := fun q => S.zf2 (q ▸ hc)
      exact k2.extBut _ _ cz (x1 _ _ (fun q => S.sep1_2 (q ▸ hc)) (k0.extBut _ _ cz e))
    simp only [Option.isSome_none, Bool.false_eq_true, if_false]
    refine wpAny_pure (wpAny_pure (wpAny_bind (wpAny_rule (stop_raised (s := ⟨g3, gs, dr, tk0, os⟩) hh fun g4 e x4 he => ?_))))
    exact ends rfl g4 tk0 e (fun c o cz _ c1 c2 q => x4 _ _ (x3 _ _ c2 (k2.extBut _ _ cz (x1 _ _ c1 (k0.extBut _ _ cz q))))) he
theorem sz_type {z TI TO : Addr} {f0 : Value} (hz : SZip s.heap z TI TO f0) : s.TypeIs (.ref z) "zip" := ⟨_, hz, rfl⟩
theorem zs_pyNext (hh : A.handled = none) {z TI TO i1 i2 : Addr} {fp1 fp2 : List Addr} {n i : Nat} {Pa Pb : Nat → Value → Prop} {Sa Sb : Nat → Heap → Prop} {a b : Value} {Q : Option Value → Shared → Prop} (S : ZipSep2 z TI TO i1 i2 fp1 fp2)
    (Da : Draws prog w A.in1 i1 fp1 n Pa Sa) (Db : Draws prog w A.in1 i2 fp2 n Pb Sb) (hz : SZip s.heap z TI TO .none) (hI : IsTupOf2 s.heap TI (.ref i1) (.ref i2)) (hO : IsTupOf2 s.heap TO a b) (sa : Sa i s.heap) (sb : Sb i s.heap) (le : i ≤ n)
    (goes : i < n → ∀ x y g' tk, Pa i x → Pb i y → SZip g' z TI TO (rawInt s.heap.objs.size) → IsTupOf2 g' TO x y → Sa (i + 1) g' → Sb (i + 1) g' → IsTupOf2 g' s.heap.objs.size x y → g'.objs.size = s.heap.objs.size + 1 →
      (∀ c o, c ≠ z → c ≠ TO → c ≠ i1 → c ≠ i2 → s.heap.get? c = some o → g'.get? c = some o) → Q (some (.ref s.heap.objs.size)) { s with heap := g', toks := tk })
    (ends : i = n → ∀ g' tk, (∀ c o, c ≠ z → c ≠ TO → c ≠ i1 → c ≠ i2 → s.heap.get? c = some o → g'.get? c = some o) → Q none { s with heap := g', toks := tk }) :
    wpAny (model prog w) A (pyNext (.ref z)) Q E s := by
  unfold pyNext
  refine wpAny_bind (wpAny_attempt (wpAny_callSpecial?_slot (name := Str.ofString "__next__") (sz_type hz) F.slot_zip_next (wpAny_call_entry F.slot_zip_next (sz_type hz) F.entry_zip_next (zs_next (A := A.in1) (show A.in1.handled = none from hh) S Da Db hz hI hO sa sb le (fun lt x y g' tk p1 p2 p3 p4 p5 p6 p7 p8 p9 => wpAny_pure (goes lt x y g' tk p1 p2 p3 p4 p5 p6 p7 p8 p9)) fun e1 g' tk e k he => ?_) (F.args_zip_next_1 _))))
  obtain ⟨o, ho, hc⟩ := he
  exact wpAny_bind (wpAny_isInstance (T := "StopIteration") (b := true) ⟨o, ho, hc⟩ isSubtype_stop (wpAny_pure (ends e1 g' tk k)))
theorem zs_go {elts : List Expr} {k1} {pos : Pos} {z TI TO T : Addr} {Q : Unit → Shared → Prop} (hz : SZip s.heap z TI TO (rawInt T)) (go : ∀ g', SZip g' z TI TO .none → Heap.SameBut z s.heap g' → Q () { s with heap := g' }) :
    wpAny (model prog w) A (letOwnedTupleGo (.Tuple elts k1 pos) (.ref z) (.ref T)) Q E s := by
  unfold letOwnedTupleGo
  refine wpAny_bind (wpAny_load hz ?_)
  show wpAny _ _ (if (["enumerate", "zip", "dict_itemiterator", "dict_reverseitemiterator", "odict_iterator", "itertools.zip_longest", "itertools.pairwise"].contains "zip" && (#[rawInt T, .bool false, .bool true, .ref TI, .ref TO] : Array Value)[0]? == some (rawInt T)) = true then _ else _) Q E s
  rw [if_pos (by simp)]; refine wpAny_bind (wpAny_rule ?_); (show wpAny _ _ (setField (.ref z) 0 .none) Q E s)
  exact wpAny_setField_rec hz (by simp) fun g' z' k' => go g' z' k'
theorem zs_iter {z TI TO : Addr} {f0 : Value} {Q : Value → Shared → Prop} (hz : SZip s.heap z TI TO f0) (go : Q (.ref z) s) : wpAny (model prog w) A (pyIter (.ref z)) Q E s := by
  refine wpAny_pyIter_slot (sz_type hz) F.slot_zip_iter (wpAny_call_entry F.slot_zip_iter (sz_type hz) F.entry_zip_iter ?_ (F.args_zip_iter_1 _))
  (show wpAny _ _ (ret (.ref z)) _ _ s); exact wpAny_pure ⟨_, rfl, "zip", _, sz_type hz, F.slot_zip_next.lookup, go⟩
end
end My

namespace My
open PySem PySem.Spec PyProof.Rows L2 Pre
open Sem (wp)
theorem zs_tc (a b : Value) : checkTypeCall "zip" ⟨[a, b], [("strict", .bool true)]⟩ = pure () := by kernel_rfl
theorem zs_nc (a b : Value) : checkBuiltinCall "zip.__new__" ⟨[.type "zip", a, b], [("strict", .bool true)]⟩ = pure () := by kernel_rfl
theorem zs_ao (a b c : Value) : argsOk "object.__init__" ⟨[a, b, c], [("strict", .bool true)]⟩ := by
  unfold argsOk; rw [signature?_of (id := "object.__init__") (n := ['_', '_', 't', 'i', 'n', 'i', '_', '_']) (o := ['t', 'c', 'e', 'j', 'b', 'o']) (by kernel_rfl) PySem.F.owner_object]; kernel_rfl
section
variable {prog : Program} {w : World} {A : Around} {E : Value → Shared → Prop} {s : Shared}
theorem zs_init (v a b : Value) : Meets (Builtin.«object.__init__» ⟨[v, a, b], [("strict", .bool true)]⟩) (fun _ R s => s.TypeIs v "zip" ∧ R (.ok (.ret .none)) s) := by
  refine Meets.of_wp fun prog w A R s hs => ?_
  obtain ⟨hT, hq⟩ := hs; have hl := PySem.F.called_zip.init.lookup; have hm := PySem.F.called_zip.made
  repeat (any_goals (first | assumption | wp_step))
  exact ⟨_, rfl, hq⟩
theorem zs_call {a b : Value} {S : PySem.Spec} {Q : Value → Shared → Prop} (g : Meets (Builtin.«zip.__new__» ⟨[.type "zip", a, b], [("strict", .bool true)]⟩) S) (h : S A.in1 (wants (fun v s' => s'.TypeIs v "zip" ∧ Q v s') E) s) :
    wpAny (model prog w) A (call (.type "zip") [a, b] [("strict", .bool true)]) Q E s := by
  have ft := PySem.F.called_zip
  obtain ⟨c, tl, hmro⟩ := ft.mro
  have hmade := ft.made
  have hsub := ft.sub
  refine wpAny_call (codeAny_of_tree ?_)
  show wpAny _ _ (callAny (.type "zip") _) _ _ _
  refine wpAny_pure ⟨Code.quiet_builtin _ (by decide +kernel), codeAny_builtin PySem.F.entry_type_call ?_⟩
  rw [Around.under_plain (weight_type_call_type "zip" [a, b] [("strict", .bool true)]) (units_type_call_type "zip" [a, b] [("strict", .bool true)])]
  have h1 := ft.notType
  have h2 := ft.canCreate
  have htc := zs_tc a b
  repeat (any_goals (first | assumption | wp_step))
  refine codeAny_mono (codeAny_call_builtin ft.plain PySem.F.entry_zip_new (wpAny_of_eq (zs_nc a b) (g prog w A.in1 _ s h))) fun r s₁ hr => ?_
  cases r with
  | error e => exact hr
  | ok fl =>
    cases fl with
    | ret obj =>
      obtain ⟨hT, hq⟩ := hr
      have hli := ft.init.lookup
      have hbi := ft.init.bind obj
      repeat (any_goals (first | assumption | wp_step))
      refine codeAny_mono (codeAny_call_builtin ft.init.plain PySem.F.entry_object_init (ft.init.check _ _ _ _ _ _ _ _ hT (zs_ao obj a b) (zs_init obj a b prog w A.in1 _ s₁ (show (fun (_ : Around) (R : Except Value Flow → Shared → Prop) (s : Shared) => s.TypeIs obj "zip" ∧ R (.ok (.ret .none)) s) A.in1 (wants (fun r s₂ => r = .none ∧ Q obj s₂) E) s₁ from ⟨hT, rfl, hq⟩)))) fun r₂ s₂ hr₂ => ?_
      cases r₂ with
      | error e => exact hr₂
      | ok fl₂ =>
        cases fl₂ with
        | ret r =>
          obtain ⟨rfl, hq⟩ := hr₂
          repeat (any_goals (first | assumption | wp_step))
        | _ => exact hr₂.elim
    | _ => exact hr.elim
end
abbrev zq1 (h : Heap) (a : Addr) : Heap := h.push { cls := .type "tuple_iterator", data := .fields #[.ref a, .int 0 0] }
abbrev zq2 (h : Heap) (a b : Addr) : Heap := (zq1 h a).push { cls := .type "list_iterator", data := .fields #[.ref b, .int 0 0] }
abbrev zq3 (h : Heap) (a b : Addr) : Heap := (zq2 h a b).push { cls := .type "tuple", data := .seq #[.ref h.objs.size, .ref (zq1 h a).objs.size] }
abbrev zq4 (h : Heap) (a b : Addr) : Heap := (zq3 h a b).push { cls := .type "tuple", data := .seq #[.none, .none] }
abbrev zq5 (h : Heap) (a b : Addr) : Heap := (zq4 h a b).push { cls := .type "zip", data := .fields #[.none, .bool false, .bool true, .ref (zq2 h a b).objs.size, .ref (zq3 h a b).objs.size] }
theorem zs_new (a b : Addr) (xs ys : Array Value) :
    Meets (Builtin.«zip.__new__» ⟨[.type "zip", .ref a, .ref b], [("strict", .bool true)]⟩) (fun _ R s => s.heap.IsTuple a xs ∧ s.heap.IsList b ys ∧
      R (.ok (.ret (.ref (zq4 s.heap a b).objs.size))) { s with heap := zq5 s.heap a b }) :=
  .of_wp fun prog w A R s h => by
    obtain ⟨hp, g, d, tk, os⟩ := s; obtain ⟨ha, hb, h⟩ := h; have hsub := sub_zip
    have hA : Heap.IsTuple (Shared.heap ⟨hp, g, d, tk, os⟩) a xs := ha; have hB : Heap.IsList (Shared.heap ⟨hp.push { cls := .type "tuple_iterator", data := .fields #[.ref a, .int 0 0] }, g, d, tk, os⟩) b ys := Heap.IsList.push hb _
    wp_walk using wpAny_pyIter_tuple hA, wpAny_pyIter_list hB
    exact ⟨_, rfl, h⟩
end My

namespace My
open PySem PySem.Spec PyProof.Rows L2 Pre
open Sem (wp)
section
variable {prog : Program} {w : World} {A : Around} {E : Value → Shared → Prop} {s : Shared}
theorem zs_made {a b : Addr} {xs ys : Array Value} {Q : Value → Shared → Prop} (ha : s.heap.IsTuple a xs) (hb : s.heap.IsList b ys)
    (go : ∀ g', SZip g' (s.heap.objs.size + 4) (s.heap.objs.size + 2) (s.heap.objs.size + 3) .none → IsTupOf2 g' (s.heap.objs.size + 2) (.ref s.heap.objs.size) (.ref (s.heap.objs.size + 1)) → IsTupOf2 g' (s.heap.objs.size + 3) .none .none →
      g'.IsTupleIter s.heap.objs.size a 0 → g'.IsListIter (s.heap.objs.size + 1) b 0 → (∀ c o, s.heap.get? c = some o → g'.get? c = some o) → Q (.ref (s.heap.objs.size + 4)) { s with heap := g' }) :
    wpAny (model prog w) A (call (.type "zip") [.ref a, .ref b] [("strict", .bool true)]) Q E s := by
  refine zs_call (zs_new a b xs ys) ⟨ha, hb, ?_⟩
  have n1 : (zq1 s.heap a).objs.size = s.heap.objs.size + 1 := Heap.size_push ..
  have n2 : (zq2 s.heap a b).objs.size = s.heap.objs.size + 2 := by rw [Heap.size_push, n1]
  have n3 : (zq3 s.heap a b).objs.size = s.heap.objs.size + 3 := by rw [Heap.size_push, n2]
  have n4 : (zq4 s.heap a b).objs.size = s.heap.objs.size + 4 := by rw [Heap.size_push, n3]
  have p : ∀ {h : Heap} {o o' : Obj} {c : Addr}, h.get? c = some o → (h.push o').get? c = some o := fun e => Heap.get?_push_of_some _ e
  have q5 : (zq5 s.heap a b).get? (zq4 s.heap a b).objs.size = some _ := Heap.get?_push_size _ rfl
  have q4 : (zq5 s.heap a b).get? (zq3 s.heap a b).objs.size = some _ := p (Heap.get?_push_size _ rfl)
  have q3 : (zq5 s.heap a b).get? (zq2 s.heap a b).objs.size = some _ := p (p (Heap.get?_push_size _ rfl))
  have q2 : (zq5 s.heap a b).get? (zq1 s.heap a).objs.size = some _ := p (p (p (Heap.get?_push_size _ rfl)))
  have q1 : (zq5 s.heap a b).get? s.heap.objs.size = some _ := p (p (p (p (Heap.get?_push_size _ rfl))))
  show _ ∧ _; rw [n2, n3, n4] at q5; rw [n1, n2] at q3; rw [n3] at q4; rw [n1] at q2; rw [n4]
  exact ⟨⟨_, q5, rfl⟩, go _ q5 q3 q4 ⟨_, q1, rfl, rfl⟩ ⟨_, q2, rfl, rfl⟩ fun c o x => p (p (p (p (p x))))⟩
end
/-- the tuple at a and the list at b, of one length, side by side -/
def ItzS (K : PySem.W.Frag) (a b : Addr) : It :=
  ⟨fun i H => ∃ (xs ys : List V), SqT K H a xs ∧ SqL K H b ys ∧ xs.length = ys.length ∧ i < xs.length,
    fun i H v H' => ∃ T x y, v = .ref T ∧ H T = none ∧ H' = upd H T (.tup [x, y]) ∧ (∀ xs, SqT K H a xs → xs[i]? = some x) ∧ ∀ ys, SqL K H b ys → ys[i]? = some y,
    fun i H => ∃ xs ys : List V, SqT K H a xs ∧ SqL K H b ys ∧ xs.length = i ∧ ys.length = i⟩
theorem turn_zs {P : Program} {w : World} {K : PySem.W.Frag} {elts : List Expr} {kk : Nat} {tpos : Pos} {a b z TI TO i1 i2 : Addr} (D : ZipApart z TI TO i1 i2 a b) :
    Turn P w K (.Tuple elts kk tpos) (ItzS K a b) [z, TI, TO, i1, i2] z (fun i h => SZip h z TI TO .none ∧ IsTupOf2 h TI (.ref i1) (.ref i2) ∧ (∃ x y, IsTupOf2 h TO x y) ∧ h.IsTupleIter i1 a i ∧ h.IsListIter i2 b i) := by
  have Sp : ZipSep2 z TI TO i1 i2 [i1, a] [i2, b] := ⟨D.TIz, D.TOz, D.TITO, D.TIi1, by simp, by simp [D.i1z.symm, D.l1z.symm], by simp [D.TOi1, D.l1TO.symm], D.TIi2, by simp, by simp [D.i2z.symm, D.l2z.symm], by simp [D.TOi2, D.l2TO.symm], by simp [D.i12, D.l2i1.symm], by simp [D.i12.symm, D.l1i2.symm]⟩
  refine ⟨by simp, fun i h st c hc => ?_, fun i h h' st k => ?_, ?_, ?_, fun A i s Q E st h => zs_iter st.1 h⟩
  · obtain ⟨hz, hTI, ⟨x, y, hTO⟩, ⟨o1, e1, _, d1⟩, ⟨o2, e2, _, d2⟩⟩ := st
    have e' : c = z ∨ c = TI ∨ c = TO ∨ c = i1 ∨ c = i2 := by simpa using hc
    rcases e' with q | q | q | q | q <;> rw [q]
    · exact ⟨_, hz, fun v q => nomatch q⟩
    · exact ⟨_, hTI, fun v q => nomatch q⟩
    · exact ⟨_, hTO, fun v q => nomatch q⟩
    · exact ⟨o1, e1, fun v q => by rw [d1] at q; cases q⟩
    · exact ⟨o2, e2, fun v q => by rw [d2] at q; cases q⟩
  · obtain ⟨hz, hTI, ⟨x, y, hTO⟩, h1, h2⟩ := st
    have kz := k z (by simp); have kI := k TI (by simp); have kO := k TO (by simp)
    exact ⟨kz _ hz, kI _ hTI, ⟨x, y, kO _ hTO⟩, h1.at fun o q => k i1 (by simp) o q, h2.at fun o q => k i2 (by simp) o q⟩
  · intro X hP hw hK hc i pins s σ H E I hf st hg
    subst hP; subst hw; subst hK
    obtain ⟨hz, hTI, ⟨x0, y0, hTO⟩, h1, h2⟩ := st; obtain ⟨xs, ys, hqx, hqy, hl, hi⟩ := hg
    obtain ⟨its, rv, p, _⟩ := I.tuple hqx; obtain ⟨its2, rv2, p2, _⟩ := I.list hqy
    have l1 := rv.length; have l2 := rv2.length
    have hzl : z < s.heap.objs.size := Heap.lt_size hz
    have hh : X.A.handled = none := I.ok.hd hc
    have Da := Draws.tuple (prog := X.prog) (w := X.w) (A := X.A.in1) (show X.A.in1.handled = none from hh) i1 a D.l1i1 its.toArray
    have Db0 := Draws.list (prog := X.prog) (w := X.w) (A := X.A.in1) (show X.A.in1.handled = none from hh) i2 b D.l2i2 its2.toArray
    have esz : its2.toArray.size = its.toArray.size := by simp; omega
    have Db : Draws X.prog X.w X.A.in1 i2 [i2, b] its.toArray.size (fun j v => its2.toArray[j]? = some v) (fun j h => h.IsListIter i2 b j ∧ h.IsList b its2.toArray) := by rw [← esz]; exact Db0
    have hin : i < its.toArray.size := by simp; omega
    refine zs_pyNext (s := s) hh Sp Da Db hz hTI hTO ⟨h1, p⟩ ⟨h2, p2.isList⟩ (Nat.le_of_lt hin) (fun _ u u2 h' tk px py z' TO' sa' sb' hT hsz hk => ?_) (fun e => absurd e (Nat.ne_of_lt hin))
    have hu : its[i]? = some u := by simpa using px
    have hu2 : its2[i]? = some u2 := by simpa using py
    obtain ⟨x, hx⟩ : ∃ x, xs[i]? = some x := ⟨_, List.getElem?_eq_getElem hi⟩
    obtain ⟨y, hy⟩ : ∃ y, ys[i]? = some y := ⟨_, List.getElem?_eq_getElem (hl ▸ hi)⟩
    obtain ⟨u', hu', ru⟩ := rv.get hx; obtain ⟨u2', hu2', ru2⟩ := rv2.get hy
    rw [hu] at hu'; cases hu'; rw [hu2] at hu2'; cases hu2'
    refine ⟨_, rfl, zs_go (s := { s with heap := h', toks := tk }) z' fun h'' z'' sb => ?_⟩
    have hT2 : h''.get? s.heap.objs.size = some { cls := .type "tuple", data := .seq #[u, u2] } := (sb.2 _ (Nat.ne_of_gt hzl)).trans hT
    have new : ObjOk X.prog X.w (upd H s.heap.objs.size (.tup [x, y])) h'' s.heap.objs.size (.tup [x, y]) := ⟨by show 2 ≤ sizeLine; decide, [u, u2], .cons ru (.cons ru2 .nil), ⟨_, hT2, rfl, _, rfl⟩⟩
    have I1 : Inv X pins σ (upd H s.heap.objs.size (.tup [x, y])) { s with heap := h'', toks := tk } :=
      I.turnedNew (t' := tk) (ch := [z, TI, TO, i1, i2]) (fun c o hb q => (sb.2 c (fun q' => hb (by simp [q']))).trans (hk c o (fun q' => hb (by simp [q'])) (fun q' => hb (by simp [q'])) (fun q' => hb (by simp [q'])) (fun q' => hb (by simp [q'])) q)) hf (Nat.le_refl _) new
    refine ⟨.ref s.heap.objs.size, _, I1, rfl, ⟨_, x, y, rfl, I.hok.fresh (Nat.le_refl _), rfl, fun l hl => by rw [I.tuple_inj hl hqx]; exact hx, fun l hl => by rw [I.list_inj hl hqy]; exact hy⟩, ⟨z'', (sb.2 _ D.TIz).trans (hk _ _ D.TIz D.TITO D.TIi1 D.TIi2 hTI), ⟨u, u2, (sb.2 _ D.TOz).trans TO'⟩, sa'.1.at fun o q => (sb.2 _ D.i1z).trans q, sb'.1.at fun o q => (sb.2 _ D.i2z).trans q⟩, fun c hcm => ?_⟩
    have hlt : c < s.heap.objs.size := by
      have e' : c = z ∨ c = TI ∨ c = TO ∨ c = i1 ∨ c = i2 := by simpa using hcm
      rcases e' with q | q | q | q | q <;> rw [q]
      · exact hzl
      · exact Heap.lt_size hTI
      · exact Heap.lt_size hTO
      · obtain ⟨_, e1, _⟩ := h1; exact Heap.lt_size e1
      · obtain ⟨_, e2, _⟩ := h2; exact Heap.lt_size e2
    rw [upd_ne (Nat.ne_of_lt hlt)]; exact (hf c hcm).1
  · intro X hP hw hK hc i pins s σ H E I hf st hg
    subst hP; subst hw; subst hK
    obtain ⟨hz, hTI, ⟨x0, y0, hTO⟩, h1, h2⟩ := st; obtain ⟨xs, ys, hqx, hqy, hl, hl2⟩ := hg
    obtain ⟨its, rv, p, _⟩ := I.tuple hqx; obtain ⟨its2, rv2, p2, _⟩ := I.list hqy
    have l1 := rv.length; have l2 := rv2.length
    have hh : X.A.handled = none := I.ok.hd hc
    have Da := Draws.tuple (prog := X.prog) (w := X.w) (A := X.A.in1) (show X.A.in1.handled = none from hh) i1 a D.l1i1 its.toArray
    have Db0 := Draws.list (prog := X.prog) (w := X.w) (A := X.A.in1) (show X.A.in1.handled = none from hh) i2 b D.l2i2 its2.toArray
    have esz : its2.toArray.size = its.toArray.size := by simp; omega
    have Db : Draws X.prog X.w X.A.in1 i2 [i2, b] its.toArray.size (fun j v => its2.toArray[j]? = some v) (fun j h => h.IsListIter i2 b j ∧ h.IsList b its2.toArray) := by rw [← esz]; exact Db0
    have hin : i = its.toArray.size := by simp; omega
    refine zs_pyNext (s := s) hh Sp Da Db hz hTI hTO ⟨h1, p⟩ ⟨h2, p2.isList⟩ (Nat.le_of_eq hin) (fun lt => absurd hin (Nat.ne_of_lt lt)) (fun _ h' tk hk => ⟨rfl, I.turnedL (t' := tk) (ch := [z, TI, TO, i1, i2]) (fun c o hb q => hk c o (fun q' => hb (by simp [q'])) (fun q' => hb (by simp [q'])) (fun q' => hb (by simp [q'])) (fun q' => hb (by simp [q'])) q) hf⟩)
section
variable {M : Model} {A : Around} {E : Value → Shared → Prop} {s : Shared} {env : Env}
theorem tykw {pos : Pos} {T : String} {e : Expr} {rest : List Expr} {kws : List Keyword} {Q : Value → Shared → Prop}
    (h : wpAny M A (spliced (backTo pos (starEach (e :: rest) env))) (fun vs s1 => wpAny M A (evalAll ((backToKw pos (keywordEach kws env)).map (·.2))) (fun ws s2 => wpAny M A (call (.type T) vs (((backToKw pos (keywordEach kws env)).filterMap (·.1)).zip ws)) Q E s2) E s1) E s)
    (he : backTo pos (starEach (e :: rest) env) = (false, eval e env) :: backTo pos (starEach rest env) := by rfl) (hp : (backTo pos (starEach (e :: rest) env)).any (·.1) = false := by rfl)
    (ha : (backToKw pos (keywordEach kws env)).all (·.1.isSome) = true := by rfl) (hk : (backToKw pos (keywordEach kws env)).any (·.1.isNone) = false := by rfl) : wpAny M A (callWith pos (.type T) [] (backTo pos (starEach (e :: rest) env)) (backToKw pos (keywordEach kws env))) Q E s := by
  unfold callWith
  refine wpAny_bind (wpAny_holding (wpAny_mono (Q := fun a s1 => wpAny M A (call (.type T) ([] ++ a.pos) a.kw) Q E s1) ?_ (fun a s1 h1 => wpAny_bind (wpAny_standAt ?_)) fun _ _ z => z))
  · rw [he] at h ⊢; exact evalArgs_kwB ha h
  · simp only [hp, hk, Bool.or_false]; refine wpAny_bind (wpAny_pure ?_)
    exact wpAny_bind (wpAny_mono h1 (fun r s2 hr => wpAny_bind (wpAny_holding (wpAny_point (wpAny_pure hr)))) fun _ _ z => z)
end
def iZipS (K : PySem.W.Frag) (ta tk : TA) : TI := fun σ H R => ta σ H fun vs H1 => tk σ H1 fun zs H2 => zs = [.bl true] ∧ ∃ a b xs ys, vs = [.ref a, .ref b] ∧ SqT K H2 a xs ∧ SqL K H2 b ys ∧ R (ItzS K a b) H2
theorem pi_zs {X : Cx} {e e2 : Expr} {kws : List Keyword} {ta tk : TA} {p pos tpos : Pos} {elts : List Expr} {kk : Nat} (hg : Gl X "zip") (hm : X.mg "zip" = none) (ha : PA X [e, e2] ta) (hk : PK X kws tk)
    (he : backTo pos (starEach [e, e2] X.env) = (false, eval e X.env) :: backTo pos (starEach [e2] X.env) := by rfl) (hp : (backTo pos (starEach [e, e2] X.env)).any (·.1) = false := by rfl)
    (hal : (backToKw pos (keywordEach kws X.env)).all (·.1.isSome) = true := by rfl) (hkn : (backToKw pos (keywordEach kws X.env)).any (·.1.isNone) = false := by rfl) (hks : (backToKw pos (keywordEach kws X.env)).filterMap (·.1) = [("strict" : Str)] := by rfl) :
    PI X (.Tuple elts kk tpos) (.Call (.Name "zip" p) [e, e2] kws pos) (iZipS X.K ta tk) := by
  refine ⟨fun pins s σ H R I h => wpAny_Call_Name_kw (ld_blt I hg hm PyProof.Rows.boot_zip (tykw (thn (ha.run pos pins s σ H _ I h) fun us s1 ⟨vs, H1, I1, r1, q1⟩ => thn (hk.run pos pins s1 σ H1 _ I1 q1) fun ws s2 ⟨zs, H2, I2, r2, q2⟩ => ?_) he hp hal hkn))⟩
  rw [hks]; obtain ⟨ez, a, b, xs, ys, ex, hqx, hqy, q⟩ := q2
  subst ez; subst ex
  cases r2 with
  | cons rb rr => cases rr; cases (show _ = Value.bool true from rb); cases r1 with
    | cons r rr => cases rr with
      | cons r' rr =>
        cases rr; cases r; cases r'
        obtain ⟨its, rv, p1, _⟩ := I2.tuple hqx; obtain ⟨its2, rv2, p2, _⟩ := I2.list hqy
        refine zs_made p1 p2.isList fun g' hz hTI hTO h1 h2 hk' => zs_iter hz ?_
        have I3 : Inv X pins σ H2 { s2 with heap := g' } := I2.kept (t' := s2.toks) hk'
        obtain ⟨o1, ho1, _⟩ := id p1
        refine ⟨s2.heap.objs.size + 4, [s2.heap.objs.size + 4, s2.heap.objs.size + 2, s2.heap.objs.size + 3, s2.heap.objs.size, s2.heap.objs.size + 1], _, _, H2, rfl, I3, turn_zs (PySem.W.ktu_apart s2.heap.objs.size a b (Heap.lt_size ho1) p2.lt), ⟨hz, hTI, ⟨_, _, hTO⟩, h1, h2⟩, fun c hcm => ?_, q⟩
        have hle : s2.heap.objs.size ≤ c := by
          have e' : c = s2.heap.objs.size + 4 ∨ c = s2.heap.objs.size + 2 ∨ c = s2.heap.objs.size + 3 ∨ c = s2.heap.objs.size ∨ c = s2.heap.objs.size + 1 := by simpa using hcm
          rcases e' with z | z | z | z | z <;> rw [z] <;> first | exact Nat.le_add_right _ _ | exact Nat.le_refl _
        exact I2.fpOk hle (I2.hok.fresh hle)
theorem walk_zs {K : PySem.W.Frag} {a b : Addr} {xs ys : List V} (hl : xs.length = ys.length) : Walk (ItzS K a b) xs.length (fun H => SqT K H a xs ∧ SqL K H b ys) (YPair (fun i => xs[i]?) (fun i => ys[i]?)) :=
  ⟨fun i _ hi q => ⟨xs, ys, q.1, q.2, hl, hi⟩, fun _ q => ⟨xs, ys, q.1, q.2, rfl, hl.symm⟩, fun i H v H' _ q ⟨T, x, z, h1, h2, h3, h4, h5⟩ => ⟨T, x, z, h1, h2, h3, h4 xs q.1, h5 ys q.2⟩⟩
theorem k_piZS {X : Cx} (K : PySem.W.Frag) (h : X.K = K) {e e2 : Expr} {kws : List Keyword} {ta tk : TA} {p pos tpos : Pos} {elts : List Expr} {kk : Nat} (hg : Gl X "zip") (hm : X.mg "zip" = none) (ha : PA X [e, e2] ta) (hk : PK X kws tk)
    (he : backTo pos (starEach [e, e2] X.env) = (false, eval e X.env) :: backTo pos (starEach [e2] X.env) := by rfl) (hp : (backTo pos (starEach [e, e2] X.env)).any (·.1) = false := by rfl)
    (hal : (backToKw pos (keywordEach kws X.env)).all (·.1.isSome) = true := by rfl) (hkn : (backToKw pos (keywordEach kws X.env)).any (·.1.isNone) = false := by rfl) (hks : (backToKw pos (keywordEach kws X.env)).filterMap (·.1) = [("strict" : Str)] := by rfl) :
    PI X (.Tuple elts kk tpos) (.Call (.Name "zip" p) [e, e2] kws pos) (iZipS K ta tk) := by subst h; exact pi_zs hg hm ha hk he hp hal hkn hks
end My

namespace My
open PySem PySem.Spec PyProof.Rows L2 Pre
open Sem (wp)
/-! ### zip(xs, ys, strict=True) of two lists -/
abbrev zr1 (h : Heap) (a : Addr) : Heap := h.push { cls := .type "list_iterator", data := .fields #[.ref a, .int 0 0] }
abbrev zr2 (h : Heap) (a b : Addr) : Heap := (zr1 h a).push { cls := .type "list_iterator", data := .fields #[.ref b, .int 0 0] }
abbrev zr3 (h : Heap) (a b : Addr) : Heap := (zr2 h a b).push { cls := .type "tuple", data := .seq #[.ref h.objs.size, .ref (zr1 h a).objs.size] }
abbrev zr4 (h : Heap) (a b : Addr) : Heap := (zr3 h a b).push { cls := .type "tuple", data := .seq #[.none, .none] }
abbrev zr5 (h : Heap) (a b : Addr) : Heap := (zr4 h a b).push { cls := .type "zip", data := .fields #[.none, .bool false, .bool true, .ref (zr2 h a b).objs.size, .ref (zr3 h a b).objs.size] }
theorem zl_new (a b : Addr) (xs ys : Array Value) :
    Meets (Builtin.«zip.__new__» ⟨[.type "zip", .ref a, .ref b], [("strict", .bool true)]⟩) (fun _ R s => s.heap.IsList a xs ∧ s.heap.IsList b ys ∧
      R (.ok (.ret (.ref (zr4 s.heap a b).objs.size))) { s with heap := zr5 s.heap a b }) :=
  .of_wp fun prog w A R s h => by
    obtain ⟨hp, g, d, tk, os⟩ := s; obtain ⟨ha, hb, h⟩ := h; have hsub := sub_zip
    have hA : Heap.IsList (Shared.heap ⟨hp, g, d, tk, os⟩) a xs := ha; have hB : Heap.IsList (Shared.heap ⟨hp.push { cls := .type "list_iterator", data := .fields #[.ref a, .int 0 0] }, g, d, tk, os⟩) b ys := Heap.IsList.push hb _
    wp_walk using wpAny_pyIter_list hA, wpAny_pyIter_list hB
    exact ⟨_, rfl, h⟩
section
variable {prog : Program} {w : World} {A : Around} {E : Value → Shared → Prop} {s : Shared}
theorem zl_made {a b : Addr} {xs ys : Array Value} {Q : Value → Shared → Prop} (ha : s.heap.IsList a xs) (hb : s.heap.IsList b ys)
    (go : ∀ g', SZip g' (s.heap.objs.size + 4) (s.heap.objs.size + 2) (s.heap.objs.size + 3) .none → IsTupOf2 g' (s.heap.objs.size + 2) (.ref s.heap.objs.size) (.ref (s.heap.objs.size + 1)) → IsTupOf2 g' (s.heap.objs.size + 3) .none .none →
      g'.IsListIter s.heap.objs.size a 0 → g'.IsListIter (s.heap.objs.size + 1) b 0 → (∀ c o, s.heap.get? c = some o → g'.get? c = some o) → Q (.ref (s.heap.objs.size + 4)) { s with heap := g' }) :
    wpAny (model prog w) A (call (.type "zip") [.ref a, .ref b] [("strict", .bool true)]) Q E s := by
  refine zs_call (zl_new a b xs ys) ⟨ha, hb, ?_⟩
  have n1 : (zr1 s.heap a).objs.size = s.heap.objs.size + 1 := Heap.size_push ..
  have n2 : (zr2 s.heap a b).objs.size = s.heap.objs.size + 2 := by rw [Heap.size_push, n1]
  have n3 : (zr3 s.heap a b).objs.size = s.heap.objs.size + 3 := by rw [Heap.size_push, n2]
  have n4 : (zr4 s.heap a b).objs.size = s.heap.objs.size + 4 := by rw [Heap.size_push, n3]
  have p : ∀ {h : Heap} {o o' : Obj} {c : Addr}, h.get? c = some o → (h.push o').get? c = some o := fun e => Heap.get?_push_of_some _ e
  have q5 : (zr5 s.heap a b).get? (zr4 s.heap a b).objs.size = some _ := Heap.get?_push_size _ rfl
  have q4 : (zr5 s.heap a b).get? (zr3 s.heap a b).objs.size = some _ := p (Heap.get?_push_size _ rfl)
  have q3 : (zr5 s.heap a b).get? (zr2 s.heap a b).objs.size = some _ := p (p (Heap.get?_push_size _ rfl))
  have q2 : (zr5 s.heap a b).get? (zr1 s.heap a).objs.size = some _ := p (p (p (Heap.get?_push_size _ rfl)))
  have q1 : (zr5 s.heap a b).get? s.heap.objs.size = some _ := p (p (p (p (Heap.get?_push_size _ rfl))))
  show _ ∧ _; rw [n2, n3, n4] at q5; rw [n1, n2] at q3; rw [n3] at q4; rw [n1] at q2; rw [n4]
  exact ⟨⟨_, q5, rfl⟩, go _ q5 q3 q4 ⟨_, q1, rfl, rfl⟩ ⟨_, q2, rfl, rfl⟩ fun c o x => p (p (p (p (p x))))⟩
end
/-- the lists at a and b, of one length, side by side -/
def ItzL (K : PySem.W.Frag) (a b : Addr) : It :=
  ⟨fun i H => ∃ (xs ys : List V), SqL K H a xs ∧ SqL K H b ys ∧ xs.length = ys.length ∧ i < xs.length,
    fun i H v H' => ∃ T x y, v = .ref T ∧ H T = none ∧ H' = upd H T (.tup [x, y]) ∧ (∀ xs, SqL K H a xs → xs[i]? = some x) ∧ ∀ ys, SqL K H b ys → ys[i]? = some y,
    fun i H => ∃ xs ys : List V, SqL K H a xs ∧ SqL K H b ys ∧ xs.length = i ∧ ys.length = i⟩
theorem turn_zl {P : Program} {w : World} {K : PySem.W.Frag} {elts : List Expr} {kk : Nat} {tpos : Pos} {a b z TI TO i1 i2 : Addr} (D : ZipApart z TI TO i1 i2 a b) :
    Turn P w K (.Tuple elts kk tpos) (ItzL K a b) [z, TI, TO, i1, i2] z (fun i h => SZip h z TI TO .none ∧ IsTupOf2 h TI (.ref i1) (.ref i2) ∧ (∃ x y, IsTupOf2 h TO x y) ∧ h.IsListIter i1 a i ∧ h.IsListIter i2 b i) := by
  have Sp : ZipSep2 z TI TO i1 i2 [i1, a] [i2, b] := ⟨D.TIz, D.TOz, D.TITO, D.TIi1, by simp, by simp [D.i1z.symm, D.l1z.symm], by simp [D.TOi1, D.l1TO.symm], D.TIi2, by simp, by simp [D.i2z.symm, D.l2z.symm], by simp [D.TOi2, D.l2TO.symm], by simp [D.i12, D.l2i1.symm], by simp [D.i12.symm, D.l1i2.symm]⟩
  refine ⟨by simp, fun i h st c hc => ?_, fun i h h' st k => ?_, ?_, ?_, fun A i s Q E st h => zs_iter st.1 h⟩
  · obtain ⟨hz, hTI, ⟨x, y, hTO⟩, ⟨o1, e1, _, d1⟩, ⟨o2, e2, _, d2⟩⟩ := st
    have e' : c = z ∨ c = TI ∨ c = TO ∨ c = i1 ∨ c = i2 := by simpa using hc
    rcases e' with q | q | q | q | q <;> rw [q]
    · exact ⟨_, hz, fun v q => nomatch q⟩
    · exact ⟨_, hTI, fun v q => nomatch q⟩
    · exact ⟨_, hTO, fun v q => nomatch q⟩
    · exact ⟨o1, e1, fun v q => by rw [d1] at q; cases q⟩
    · exact ⟨o2, e2, fun v q => by rw [d2] at q; cases q⟩
  · obtain ⟨hz, hTI, ⟨x, y, hTO⟩, h1, h2⟩ := st
    have kz := k z (by simp); have kI := k TI (by simp); have kO := k TO (by simp)
    exact ⟨kz _ hz, kI _ hTI, ⟨x, y, kO _ hTO⟩, h1.at fun o q => k i1 (by simp) o q, h2.at fun o q => k i2 (by simp) o q⟩
  · intro X hP hw hK hc i pins s σ H E I hf st hg
    subst hP; subst hw; subst hK
    obtain ⟨hz, hTI, ⟨x0, y0, hTO⟩, h1, h2⟩ := st; obtain ⟨xs, ys, hqx, hqy, hl, hi⟩ := hg
    obtain ⟨its, rv, p, _⟩ := I.list hqx; obtain ⟨its2, rv2, p2, _⟩ := I.list hqy
    have l1 := rv.length; have l2 := rv2.length
    have hzl : z < s.heap.objs.size := Heap.lt_size hz
    have hh : X.A.handled = none := I.ok.hd hc
    have Da := Draws.list (prog := X.prog) (w := X.w) (A := X.A.in1) (show X.A.in1.handled = none from hh) i1 a D.l1i1 its.toArray
    have Db0 := Draws.list (prog := X.prog) (w := X.w) (A := X.A.in1) (show X.A.in1.handled = none from hh) i2 b D.l2i2 its2.toArray
    have esz : its2.toArray.size = its.toArray.size := by simp; omega
    have Db : Draws X.prog X.w X.A.in1 i2 [i2, b] its.toArray.size (fun j v => its2.toArray[j]? = some v) (fun j h => h.IsListIter i2 b j ∧ h.IsList b its2.toArray) := by rw [← esz]; exact Db0
    have hin : i < its.toArray.size := by simp; omega
    refine zs_pyNext (s := s) hh Sp Da Db hz hTI hTO ⟨h1, p.isList⟩ ⟨h2, p2.isList⟩ (Nat.le_of_lt hin) (fun _ u u2 h' tk px py z' TO' sa' sb' hT hsz hk => ?_) (fun e => absurd e (Nat.ne_of_lt hin))
    have hu : its[i]? = some u := by simpa using px
    have hu2 : its2[i]? = some u2 := by simpa using py
    obtain ⟨x, hx⟩ : ∃ x, xs[i]? = some x := ⟨_, List.getElem?_eq_getElem hi⟩
    obtain ⟨y, hy⟩ : ∃ y, ys[i]? = some y := ⟨_, List.getElem?_eq_getElem (hl ▸ hi)⟩
    obtain ⟨u', hu', ru⟩ := rv.get hx; obtain ⟨u2', hu2', ru2⟩ := rv2.get hy
    rw [hu] at hu'; cases hu'; rw [hu2] at hu2'; cases hu2'
    refine ⟨_, rfl, zs_go (s := { s with heap := h', toks := tk }) z' fun h'' z'' sb => ?_⟩
    have hT2 : h''.get? s.heap.objs.size = some { cls := .type "tuple", data := .seq #[u, u2] } := (sb.2 _ (Nat.ne_of_gt hzl)).trans hT
    have new : ObjOk X.prog X.w (upd H s.heap.objs.size (.tup [x, y])) h'' s.heap.objs.size (.tup [x, y]) := ⟨by show 2 ≤ sizeLine; decide, [u, u2], .cons ru (.cons ru2 .nil), ⟨_, hT2, rfl, _, rfl⟩⟩
    have I1 : Inv X pins σ (upd H s.heap.objs.size (.tup [x, y])) { s with heap := h'', toks := tk } :=
      I.turnedNew (t' := tk) (ch := [z, TI, TO, i1, i2]) (fun c o hb q => (sb.2 c (fun q' => hb (by simp [q']))).trans (hk c o (fun q' => hb (by simp [q'])) (fun q' => hb (by simp [q'])) (fun q' => hb (by simp [q'])) (fun q' => hb (by simp [q'])) q)) hf (Nat.le_refl _) new
    refine ⟨.ref s.heap.objs.size, _, I1, rfl, ⟨_, x, y, rfl, I.hok.fresh (Nat.le_refl _), rfl, fun l hl => by rw [I.list_inj hl hqx]; exact hx, fun l hl => by rw [I.list_inj hl hqy]; exact hy⟩, ⟨z'', (sb.2 _ D.TIz).trans (hk _ _ D.TIz D.TITO D.TIi1 D.TIi2 hTI), ⟨u, u2, (sb.2 _ D.TOz).trans TO'⟩, sa'.1.at fun o q => (sb.2 _ D.i1z).trans q, sb'.1.at fun o q => (sb.2 _ D.i2z).trans q⟩, fun c hcm => ?_⟩
    have hlt : c < s.heap.objs.size := by
      have e' : c = z ∨ c = TI ∨ c = TO ∨ c = i1 ∨ c = i2 := by simpa using hcm
      rcases e' with q | q | q | q | q <;> rw [q]
      · exact hzl
      · exact Heap.lt_size hTI
      · exact Heap.lt_size hTO
      · obtain ⟨_, e1, _⟩ := h1; exact Heap.lt_size e1
      · obtain ⟨_, e2, _⟩ := h2; exact Heap.lt_size e2
    rw [upd_ne (Nat.ne_of_lt hlt)]; exact (hf c hcm).1
  · intro X hP hw hK hc i pins s σ H E I hf st hg
    subst hP; subst hw; subst hK
    obtain ⟨hz, hTI, ⟨x0, y0, hTO⟩, h1, h2⟩ := st; obtain ⟨xs, ys, hqx, hqy, hl, hl2⟩ := hg
    obtain ⟨its, rv, p, _⟩ := I.list hqx; obtain ⟨its2, rv2, p2, _⟩ := I.list hqy
    have l1 := rv.length; have l2 := rv2.length
    have hh : X.A.handled = none := I.ok.hd hc
    have Da := Draws.list (prog := X.prog) (w := X.w) (A := X.A.in1) (show X.A.in1.handled = none from hh) i1 a D.l1i1 its.toArray
    have Db0 := Draws.list (prog := X.prog) (w := X.w) (A := X.A.in1) (show X.A.in1.handled = none from hh) i2 b D.l2i2 its2.toArray
    have esz : its2.toArray.size = its.toArray.size := by simp; omega
    have Db : Draws X.prog X.w X.A.in1 i2 [i2, b] its.toArray.size (fun j v => its2.toArray[j]? = some v) (fun j h => h.IsListIter i2 b j ∧ h.IsList b its2.toArray) := by rw [← esz]; exact Db0
    have hin : i = its.toArray.size := by simp; omega
    refine zs_pyNext (s := s) hh Sp Da Db hz hTI hTO ⟨h1, p.isList⟩ ⟨h2, p2.isList⟩ (Nat.le_of_eq hin) (fun lt => absurd hin (Nat.ne_of_lt lt)) (fun _ h' tk hk => ⟨rfl, I.turnedL (t' := tk) (ch := [z, TI, TO, i1, i2]) (fun c o hb q => hk c o (fun q' => hb (by simp [q'])) (fun q' => hb (by simp [q'])) (fun q' => hb (by simp [q'])) (fun q' => hb (by simp [q'])) q) hf⟩)
def iZipL (K : PySem.W.Frag) (ta tk : TA) : TI := fun σ H R => ta σ H fun vs H1 => tk σ H1 fun zs H2 => zs = [.bl true] ∧ ∃ a b xs ys, vs = [.ref a, .ref b] ∧ SqL K H2 a xs ∧ SqL K H2 b ys ∧ R (ItzL K a b) H2
theorem pi_zl {X : Cx} {e e2 : Expr} {kws : List Keyword} {ta tk : TA} {p pos tpos : Pos} {elts : List Expr} {kk : Nat} (hg : Gl X "zip") (hm : X.mg "zip" = none) (ha : PA X [e, e2] ta) (hk : PK X kws tk)
    (he : backTo pos (starEach [e, e2] X.env) = (false, eval e X.env) :: backTo pos (starEach [e2] X.env) := by rfl) (hp : (backTo pos (starEach [e, e2] X.env)).any (·.1) = false := by rfl)
    (hal : (backToKw pos (keywordEach kws X.env)).all (·.1.isSome) = true := by rfl) (hkn : (backToKw pos (keywordEach kws X.env)).any (·.1.isNone) = false := by rfl) (hks : (backToKw pos (keywordEach kws X.env)).filterMap (·.1) = [("strict" : Str)] := by rfl) :
    PI X (.Tuple elts kk tpos) (.Call (.Name "zip" p) [e, e2] kws pos) (iZipL X.K ta tk) := by
  refine ⟨fun pins s σ H R I h => wpAny_Call_Name_kw (ld_blt I hg hm PyProof.Rows.boot_zip (tykw (thn (ha.run pos pins s σ H _ I h) fun us s1 ⟨vs, H1, I1, r1, q1⟩ => thn (hk.run pos pins s1 σ H1 _ I1 q1) fun ws s2 ⟨zs, H2, I2, r2, q2⟩ => ?_) he hp hal hkn))⟩
  rw [hks]; obtain ⟨ez, a, b, xs, ys, ex, hqx, hqy, q⟩ := q2
  subst ez; subst ex
  cases r2 with
  | cons rb rr => cases rr; cases (show _ = Value.bool true from rb); cases r1 with
    | cons r rr => cases rr with
      | cons r' rr =>
        cases rr; cases r; cases r'
        obtain ⟨its, rv, p1, _⟩ := I2.list hqx; obtain ⟨its2, rv2, p2, _⟩ := I2.list hqy
        refine zl_made p1.isList p2.isList fun g' hz hTI hTO h1 h2 hk' => zs_iter hz ?_
        have I3 : Inv X pins σ H2 { s2 with heap := g' } := I2.kept (t' := s2.toks) hk'

        refine ⟨s2.heap.objs.size + 4, [s2.heap.objs.size + 4, s2.heap.objs.size + 2, s2.heap.objs.size + 3, s2.heap.objs.size, s2.heap.objs.size + 1], _, _, H2, rfl, I3, turn_zl (PySem.W.ktu_apart s2.heap.objs.size a b p1.lt p2.lt), ⟨hz, hTI, ⟨_, _, hTO⟩, h1, h2⟩, fun c hcm => ?_, q⟩
        have hle : s2.heap.objs.size ≤ c := by
          have e' : c = s2.heap.objs.size + 4 ∨ c = s2.heap.objs.size + 2 ∨ c = s2.heap.objs.size + 3 ∨ c = s2.heap.objs.size ∨ c = s2.heap.objs.size + 1 := by simpa using hcm
          rcases e' with z | z | z | z | z <;> rw [z] <;> first | exact Nat.le_add_right _ _ | exact Nat.le_refl _
        exact I2.fpOk hle (I2.hok.fresh hle)
theorem walk_zl {K : PySem.W.Frag} {a b : Addr} {xs ys : List V} (hl : xs.length = ys.length) : Walk (ItzL K a b) xs.length (fun H => SqL K H a xs ∧ SqL K H b ys) (YPair (fun i => xs[i]?) (fun i => ys[i]?)) :=
  ⟨fun i _ hi q => ⟨xs, ys, q.1, q.2, hl, hi⟩, fun _ q => ⟨xs, ys, q.1, q.2, rfl, hl.symm⟩, fun i H v H' _ q ⟨T, x, z, h1, h2, h3, h4, h5⟩ => ⟨T, x, z, h1, h2, h3, h4 xs q.1, h5 ys q.2⟩⟩
theorem k_piZL {X : Cx} (K : PySem.W.Frag) (h : X.K = K) {e e2 : Expr} {kws : List Keyword} {ta tk : TA} {p pos tpos : Pos} {elts : List Expr} {kk : Nat} (hg : Gl X "zip") (hm : X.mg "zip" = none) (ha : PA X [e, e2] ta) (hk : PK X kws tk)
    (he : backTo pos (starEach [e, e2] X.env) = (false, eval e X.env) :: backTo pos (starEach [e2] X.env) := by rfl) (hp : (backTo pos (starEach [e, e2] X.env)).any (·.1) = false := by rfl)
    (hal : (backToKw pos (keywordEach kws X.env)).all (·.1.isSome) = true := by rfl) (hkn : (backToKw pos (keywordEach kws X.env)).any (·.1.isNone) = false := by rfl) (hks : (backToKw pos (keywordEach kws X.env)).filterMap (·.1) = [("strict" : Str)] := by rfl) :
    PI X (.Tuple elts kk tpos) (.Call (.Name "zip" p) [e, e2] kws pos) (iZipL K ta tk) := by subst h; exact pi_zl hg hm ha hk he hp hal hkn hks
end My

namespace My
open PySem PySem.Spec PyProof.Rows PySem.W L2 Pre
/-- zip, strict, of a tuple or a list with a list -/
def iZipB (K : PySem.W.Frag) (ta tk : TA) : TI := fun σ H R => ta σ H fun vs H1 => tk σ H1 fun zs H2 => zs = [.bl true] ∧ ∃ a b xs ys, vs = [.ref a, .ref b] ∧ SqL K H2 b ys ∧ ((SqT K H2 a xs ∧ R (ItzS K a b) H2) ∨ (SqL K H2 a xs ∧ R (ItzL K a b) H2))
theorem pi_zb {X : Cx} {e e2 : Expr} {kws : List Keyword} {ta tk : TA} {p pos tpos : Pos} {elts : List Expr} {kk : Nat} (hg : Gl X "zip") (hm : X.mg "zip" = none) (ha : PA X [e, e2] ta) (hk : PK X kws tk)
    (he : backTo pos (starEach [e, e2] X.env) = (false, eval e X.env) :: backTo pos (starEach [e2] X.env) := by rfl) (hp : (backTo pos (starEach [e, e2] X.env)).any (·.1) = false := by rfl)
    (hal : (backToKw pos (keywordEach kws X.env)).all (·.1.isSome) = true := by rfl) (hkn : (backToKw pos (keywordEach kws X.env)).any (·.1.isNone) = false := by rfl) (hks : (backToKw pos (keywordEach kws X.env)).filterMap (·.1) = [("strict" : Str)] := by rfl) :
    PI X (.Tuple elts kk tpos) (.Call (.Name "zip" p) [e, e2] kws pos) (iZipB X.K ta tk) := by
  refine ⟨fun pins s σ H R I h => wpAny_Call_Name_kw (ld_blt I hg hm PyProof.Rows.boot_zip (tykw (thn (ha.run pos pins s σ H _ I h) fun us s1 ⟨vs, H1, I1, r1, q1⟩ => thn (hk.run pos pins s1 σ H1 _ I1 q1) fun ws s2 ⟨zs, H2, I2, r2, q2⟩ => ?_) he hp hal hkn))⟩
  rw [hks]; obtain ⟨ez, a, b, xs, ys, ex, hqy, hqq⟩ := q2
  subst ez; subst ex
  cases r2 with
  | cons rb rr => cases rr; cases (show _ = Value.bool true from rb); cases r1 with
    | cons r rr => cases rr with
      | cons r' rr =>
        cases rr; cases r; cases r'
        rcases hqq with ⟨hqx, q⟩ | ⟨hqx, q⟩
        · skip
          obtain ⟨its, rv, p1, _⟩ := I2.tuple hqx; obtain ⟨its2, rv2, p2, _⟩ := I2.list hqy
          refine zs_made p1 p2.isList fun g' hz hTI hTO h1 h2 hk' => zs_iter hz ?_
          have I3 : Inv X pins σ H2 { s2 with heap := g' } := I2.kept (t' := s2.toks) hk'
          obtain ⟨o1, ho1, _⟩ := id p1
          refine ⟨s2.heap.objs.size + 4, [s2.heap.objs.size + 4, s2.heap.objs.size + 2, s2.heap.objs.size + 3, s2.heap.objs.size, s2.heap.objs.size + 1], _, _, H2, rfl, I3, turn_zs (PySem.W.ktu_apart s2.heap.objs.size a b (Heap.lt_size ho1) p2.lt), ⟨hz, hTI, ⟨_, _, hTO⟩, h1, h2⟩, fun c hcm => ?_, q⟩
          have hle : s2.heap.objs.size ≤ c := by
            have e' : c = s2.heap.objs.size + 4 ∨ c = s2.heap.objs.size + 2 ∨ c = s2.heap.objs.size + 3 ∨ c = s2.heap.objs.size ∨ c = s2.heap.objs.size + 1 := by simpa using hcm
            rcases e' with z | z | z | z | z <;> rw [z] <;> first | exact Nat.le_add_right _ _ | exact Nat.le_refl _
          exact I2.fpOk hle (I2.hok.fresh hle)
        · skip
          obtain ⟨its, rv, p1, _⟩ := I2.list hqx; obtain ⟨its2, rv2, p2, _⟩ := I2.list hqy
          refine zl_made p1.isList p2.isList fun g' hz hTI hTO h1 h2 hk' => zs_iter hz ?_
          have I3 : Inv X pins σ H2 { s2 with heap := g' } := I2.kept (t' := s2.toks) hk'

          refine ⟨s2.heap.objs.size + 4, [s2.heap.objs.size + 4, s2.heap.objs.size + 2, s2.heap.objs.size + 3, s2.heap.objs.size, s2.heap.objs.size + 1], _, _, H2, rfl, I3, turn_zl (PySem.W.ktu_apart s2.heap.objs.size a b p1.lt p2.lt), ⟨hz, hTI, ⟨_, _, hTO⟩, h1, h2⟩, fun c hcm => ?_, q⟩
          have hle : s2.heap.objs.size ≤ c := by
            have e' : c = s2.heap.objs.size + 4 ∨ c = s2.heap.objs.size + 2 ∨ c = s2.heap.objs.size + 3 ∨ c = s2.heap.objs.size ∨ c = s2.heap.objs.size + 1 := by simpa using hcm
            rcases e' with z | z | z | z | z <;> rw [z] <;> first | exact Nat.le_add_right _ _ | exact Nat.le_refl _
          exact I2.fpOk hle (I2.hok.fresh hle)
theorem k_piZB {X : Cx} (K : PySem.W.Frag) (h : X.K = K) {e e2 : Expr} {kws : List Keyword} {ta tk : TA} {p pos tpos : Pos} {elts : List Expr} {kk : Nat} (hg : Gl X "zip") (hm : X.mg "zip" = none) (ha : PA X [e, e2] ta) (hk : PK X kws tk)
    (he : backTo pos (starEach [e, e2] X.env) = (false, eval e X.env) :: backTo pos (starEach [e2] X.env) := by rfl) (hp : (backTo pos (starEach [e, e2] X.env)).any (·.1) = false := by rfl)
    (hal : (backToKw pos (keywordEach kws X.env)).all (·.1.isSome) = true := by rfl) (hkn : (backToKw pos (keywordEach kws X.env)).any (·.1.isNone) = false := by rfl) (hks : (backToKw pos (keywordEach kws X.env)).filterMap (·.1) = [("strict" : Str)] := by rfl) :
    PI X (.Tuple elts kk tpos) (.Call (.Name "zip" p) [e, e2] kws pos) (iZipB K ta tk) := by subst h; exact pi_zb hg hm ha hk he hp hal hkn hks
end My

namespace My
open PySem PySem.Spec PyProof.Rows L2 Pre
theorem _root_.L2.TyX.same {K : PySem.W.Frag} {H H' : Hp} {v : V} {t : Value} (s : Same H H') (h : TyX K H v t) : TyX K H' v t := by
  cases h with
  | base b => exact .base (by
    cases b with
    | non => exact .non
    | bl y => exact .bl y
    | int i => exact .int i
    | str y => exact .str y
    | flt y => exact .flt y
    | lst e => exact .lst (s _ _ e)
    | frz e => exact .frz (s _ _ e)
    | tup e => exact .tup (s _ _ e)
    | dK e => exact .dK (s _ _ e)
    | dT e => exact .dT (s _ _ e)
    | ins e cl ha hn htk hm => exact .ins (s _ _ e) cl ha hn htk hm)
  | byt b => exact .byt b
  | set e => exact .set (s _ _ e)
  | kList e c => exact .kList e c
  | kTuple e c => exact .kTuple e c
  | kDict e c => exact .kDict e c
  | fTuple e => exact .fTuple (s _ _ e)
  | fDict e => exact .fDict (s _ _ e)
end My

namespace My
open PySem PySem.Spec PyProof.Rows L2
theorem small4 {n : Nat} (h : n ≤ 100000) : n < sizeLine := by rw [sizeLine_eq]; omega
end My

namespace My
open PySem PySem.Spec PyProof.Rows L2 Pre
/-! ### whole numbers, and what is none -/
/-- what is no whole number -/
def BadN (K : PySem.W.Frag) (H : Hp) (v : V) : Prop := (∃ b : Bool, v = .bl b) ∨ ∃ T : String, TyX K H v (.type T) ∧ kitB T "int" = some false
def NumV (K : PySem.W.Frag) (H : Hp) (v : V) (lo : Int) (hi : Option Int) (b : Bool) : Prop := (∃ i : Int, v = .int i ∧ b = decide (lo ≤ i ∧ ∀ j, hi = some j → i ≤ j)) ∨ (BadN K H v ∧ b = false)
theorem BadN.same {K : PySem.W.Frag} {H H' : Hp} {v : V} (s : Same H H') (h : BadN K H v) : BadN K H' v := by
  rcases h with h | ⟨T, ty, e⟩
  · exact .inl h
  · exact .inr ⟨T, ty.same s, e⟩
theorem NumV.same {K : PySem.W.Frag} {H H' : Hp} {v : V} {lo : Int} {hi : Option Int} {b : Bool} (s : Same H H') (h : NumV K H v lo hi b) : NumV K H' v lo hi b := by
  rcases h with h | ⟨h, e⟩
  · exact .inl h
  · exact .inr ⟨h.same s, e⟩
/-- a bound: a number or None -/
def hiV : Option Int → V
  | some j => .int j
  | none => .non
local macro_rules | `(tactic| walk_at "go") => `(tactic| repeat (first | (with_reducible first | refine iteT ?_ | refine iteF ?_ | refine iteNtt ?_ | refine iteNff ?_ | refine iteET (by omega) ?_ | refine iteEF (by omega) ?_ | refine iteENT (by omega) ?_ | refine iteENF (by omega) ?_ | refine iteDT (by omega) ?_ | refine iteDF (by omega) ?_ | refine iteNT (by omega) ?_ | refine iteNF (by omega) ?_) | refine ⟨_, rfl, ?_⟩ | refine ⟨_, _, rfl, rfl, ?_⟩ | refine ⟨_, _, rfl, ?_⟩ | refine ⟨rfl, ?_⟩ | refine .inl ⟨_, rfl, ?_⟩ | refine .inr ⟨_, rfl, ?_⟩))
local macro_rules | `(tactic| walk_at "b") => `(tactic| try dsimp (config := { proj := false, iota := false, eta := false, zeta := false }) only)
section
variable {P : Program} {w : World} {K : PySem.W.Frag} {mg : Str → Option Value} {base : Heap} [pf : Sup.PF P fileS]
def sp_is_whole (K : PySem.W.Frag) : Sp := fun vs H Q _ => ∃ v : V, vs = [v] ∧ ((∃ i : Int, v = .int i ∧ Q (.bl true) H) ∨ (BadN K H v ∧ Q (.bl false) H))
theorem G_is_whole (T : Top K mg) : FnOk P w K mg base CX0 1 T.f_is_whole T.fd_is_whole ["value"] (sp_is_whole K) := by
  refine T.F_is_whole.ok sc_is_whole (fun vs H Q E h => by obtain ⟨v, rfl, _⟩ := h; rfl) (fun cdv A outer s H vs Q E hr h => ?_)
  obtain ⟨v, rfl, h⟩ := h
  refine ⟨_, PSs.nox (pss_one (ps_ret (pe_and (pe_callB (k_isi K rfl) (by rfl) T.n_isinstance (by decide +kernel) (pa_cons (pv 0) (pa_cons (pe_bltn (v := .ty "int") (by rfl) T.n_int (by decide +kernel) rfl) pa_nil))) (pe_one (pe_not (pe_callB (k_isi K rfl) (by rfl) T.n_isinstance (by decide +kernel) (pa_cons (pv 0) (pa_cons (pe_bltn (v := .ty "bool") (by rfl) T.n_bool (by decide +kernel) rfl) pa_nil)))))))), ?_⟩
  rcases h with ⟨i, rfl, q⟩ | ⟨⟨b, rfl⟩ | ⟨T, ty, hT⟩, q⟩
  · refine ⟨_, rfl, _, _, _, _, true, rfl, .ty _, .base (.int i), kit_ty (by decide +kernel), true, rfl, iteT ?_⟩
    exact ⟨_, rfl, _, _, _, _, false, rfl, .ty _, .base (.int i), kit_ty (by decide +kernel), false, rfl, q⟩
  · refine ⟨_, rfl, _, _, _, _, true, rfl, .ty _, .base (.bl b), kit_ty (by decide +kernel), true, rfl, iteT ?_⟩
    exact ⟨_, rfl, _, _, _, _, true, rfl, .ty _, .base (.bl b), kit_ty (by decide +kernel), true, rfl, q⟩
  · exact ⟨_, rfl, _, _, _, _, false, rfl, .ty _, ty, kit_ty hT, false, rfl, iteF q⟩
def sp_is_between (K : PySem.W.Frag) : Sp := fun vs H Q _ => ∃ (v : V) (lo : Int) (hi : Option Int) (b : Bool), vs = [v, .int lo, hiV hi] ∧ NumV K H v lo hi b ∧ Q (.bl b) H
theorem G_is_between (T : Top K mg) : FnOk P w K mg base CX0 2 T.f_is_between T.fd_is_between ["value", "low", "high"] (sp_is_between K) := by
  refine T.F_is_between.ok sc_is_between (fun vs H Q E h => by obtain ⟨v, lo, hi, b, rfl, _⟩ := h; rfl) (fun cdv A outer s H vs Q E hr h => ?_)
  obtain ⟨v, lo, hi, b, rfl, hv, q⟩ := h
  refine ⟨_, PSs.nox (pss_one (ps_ret (pe_and (pe_call (G_is_whole (P := P) T) (hr.mono (by decide)) (by rfl) T.g_is_whole T.F_is_whole.kp T.b_is_whole .nil pass0 (pa_cons (pv 0) pa_nil)) (pe_and (pe_cmpR op_le (pv 1) (pv 0) (nomark _)) (pe_one (pe_or (pe_cmpR op_isN (pv 2) pe_non (nomark _)) (pe_one (pe_cmpR op_le (pv 0) (pv 2) (nomark _))))))))), ?_⟩
  rcases hv with ⟨i, rfl, rfl⟩ | ⟨hv, rfl⟩
  · refine ⟨_, rfl, _, rfl, .inl ⟨i, rfl, true, rfl, iteT ?_⟩⟩
    refine ⟨_, rfl, _, rfl, _, _, rfl, rfl, _, rfl, ite2 (fun e => ?_) (fun e => ?_)⟩
    · have e1 : lo ≤ i := of_decide_eq_true e
      cases hi with
      | none =>
        refine ⟨_, rfl, rfl, _, rfl, iteT ?_⟩
        rw [decide_eq_true ⟨e1, fun j h => nomatch h⟩] at q
        exact q
      | some j =>
        refine ⟨_, rfl, rfl, _, rfl, iteF ⟨_, rfl, _, rfl, _, _, rfl, rfl, ?_⟩⟩
        have e2 : decide (lo ≤ i ∧ ∀ j', some j = some j' → i ≤ j') = decide (i ≤ j) := by
          by_cases h : i ≤ j
          · rw [decide_eq_true h, decide_eq_true]
            exact ⟨e1, fun j' e => by cases e; exact h⟩
          · rw [decide_eq_false h, decide_eq_false]
            exact fun z => h (z.2 j rfl)
        rw [e2] at q
        exact q
    · have e1 : ¬ lo ≤ i := fun h => e (decide_eq_true h)
      rw [decide_eq_false fun z => e1 z.1] at q
      exact q
  · exact ⟨_, rfl, _, rfl, .inr ⟨hv, false, rfl, iteF q⟩⟩
def sp_check_number (K : PySem.W.Frag) (C : Addr) : Sp := fun vs H Q E => ∃ (v : V) (lo : Int) (hi : Option Int) (b : Bool), vs = [v, .int lo, hiV hi] ∧ NumV K H v lo hi b ∧ (b = true → Q .non H) ∧ (b = false → ∀ d, H d = none → E (.ref C) (some d) (upd H d (.xd [("value", v)])))
theorem G_check_number (T : Top K mg) : FnOk P w K mg base (L2.CX P w) 3 T.f_check_number T.fd_check_number ["number", "low", "high"] (sp_check_number K T.C_InvalidNumber) := by
  refine T.F_check_number.ok (CX := L2.CX P w) sc_check_number (fun vs H Q E h => by obtain ⟨v, lo, hi, b, rfl, _⟩ := h; rfl) (fun cdv A outer s H vs Q E hr h => ?_)
  obtain ⟨v, lo, hi, b, rfl, hv, q1, q2⟩ := h
  refine ⟨_, (pss_one (ps_if (pt_not (pt_val (pe_call (G_is_between (P := P) T) (hr.mono (by decide)) (by rfl) T.g_is_between T.F_is_between.kp T.b_is_between .nil pass0 (pa_cons (pv 0) (pa_cons (pv 1) (pa_cons (pv 2) pa_nil))))))
    (pss_one (ps_raise rfl (takes_of rfl rfl rfl rfl) (pmk_oex T.er_InvalidNumber.sup.T T.er_InvalidNumber.ini T.er_InvalidNumber.ity (G_InvalidNumber___init__ (P := P) (CX := CX0) T) (hr.mono (by decide)) T.er_InvalidNumber.bnd .nil pass0 (by rfl) T.gc_InvalidNumber (pa_cons (pv 0) pa_nil))))
    pss_nil)), ?_⟩
  refine ⟨_, rfl, _, rfl, _, rfl, v, lo, hi, b, rfl, hv, _, rfl, ?_⟩
  cases b with
  | true => exact iteF (q1 rfl)
  | false => exact iteT ⟨_, rfl, mk_sup fun d nd => q2 rfl d nd⟩
end
end My

namespace My
/-! ### tables of starts -/
def tabs : List Int → Nat → List (List Int)
  | _, 0 => [[]]
  | [], _ + 1 => []
  | s :: r, k + 1 => (tabs r k).map (s :: ·) ++ tabs r (k + 1)
theorem tabs_zero (r : List Int) : tabs r 0 = [[]] := by cases r <;> rfl
def stepL : Int → List Int → Int → Int
  | c, [], t => t - c
  | c, x :: xs, t => max (x - c) (stepL x xs t)
def asc (c : Int) (r : List Int) (t : Int) : Prop := (c :: r).Pairwise (· < ·) ∧ ∀ x ∈ c :: r, x < t
theorem asc.tail {c s : Int} {r : List Int} {t : Int} (h : asc c (s :: r) t) : asc s r t := ⟨(List.pairwise_cons.mp h.1).2, fun x hx => h.2 x (List.mem_cons_of_mem _ hx)⟩
theorem asc.skip {c s : Int} {r : List Int} {t : Int} (h : asc c (s :: r) t) : asc c r t := by
  obtain ⟨h1, h2⟩ := List.pairwise_cons.mp h.1
  refine ⟨List.pairwise_cons.mpr ⟨fun x hx => h1 x (List.mem_cons_of_mem _ hx), (List.pairwise_cons.mp h2).2⟩, fun x hx => h.2 x ?_⟩
  rcases List.mem_cons.mp hx with rfl | hx
  · exact List.mem_cons_self
  · exact List.mem_cons_of_mem _ (List.mem_cons_of_mem _ hx)
theorem asc.lt {c s : Int} {r : List Int} {t : Int} (h : asc c (s :: r) t) : c < s := (List.pairwise_cons.mp h.1).1 s List.mem_cons_self
theorem asc.end {c : Int} {r : List Int} {t : Int} (h : asc c r t) : c < t := h.2 c List.mem_cons_self
theorem tabs_mem : ∀ {r : List Int} {k : Nat} {ys : List Int}, ys ∈ tabs r k ↔ ys.Sublist r ∧ ys.length = k
  | r, 0, ys => by
    rw [tabs_zero, List.mem_singleton]
    constructor
    · rintro rfl; exact ⟨List.nil_sublist _, rfl⟩
    · rintro ⟨_, h⟩; exact List.length_eq_zero_iff.mp h
  | [], k + 1, ys => by
    constructor
    · intro h; cases h
    · rintro ⟨h, h2⟩
      rw [List.sublist_nil.mp h] at h2
      cases h2
  | s :: r, k + 1, ys => by
    show ys ∈ (tabs r k).map (s :: ·) ++ tabs r (k + 1) ↔ _
    rw [List.mem_append, List.mem_map]
    constructor
    · rintro (⟨zs, hz, rfl⟩ | h)
      · obtain ⟨h1, h2⟩ := tabs_mem.mp hz
        exact ⟨h1.cons_cons s, by rw [List.length_cons, h2]⟩
      · obtain ⟨h1, h2⟩ := tabs_mem.mp h
        exact ⟨h1.cons s, h2⟩
    · rintro ⟨h1, h2⟩
      cases h1 with
      | cons _ h => exact .inr (tabs_mem.mpr ⟨h, h2⟩)
      | cons_cons _ h => exact .inl ⟨_, tabs_mem.mpr ⟨h, by simpa using h2⟩, rfl⟩
theorem tabs_sorted : ∀ {r : List Int} {k : Nat}, r.Pairwise (· < ·) → (tabs r k).Pairwise (· < ·)
  | r, 0, _ => by rw [tabs_zero]; exact List.pairwise_singleton _ _
  | [], k + 1, _ => List.Pairwise.nil
  | s :: r, k + 1, h => by
    obtain ⟨h1, h2⟩ := List.pairwise_cons.mp h
    show ((tabs r k).map (s :: ·) ++ tabs r (k + 1)).Pairwise _
    refine List.pairwise_append.mpr ⟨?_, tabs_sorted h2, fun a ha b hb => ?_⟩
    · rw [List.pairwise_map]
      exact (tabs_sorted h2).imp fun {x y} hxy => List.cons_lt_cons_iff.mpr (.inr ⟨rfl, hxy⟩)
    · obtain ⟨zs, hz, rfl⟩ := List.mem_map.mp ha
      obtain ⟨hb1, hb2⟩ := tabs_mem.mp hb
      cases b with
      | nil => cases hb2
      | cons y ys => exact List.cons_lt_cons_iff.mpr (.inl (h1 y (hb1.subset List.mem_cons_self)))
theorem tabs_some : ∀ (r : List Int) (k : Nat), k ≤ r.length → tabs r k ≠ []
  | r, 0, _ => by rw [tabs_zero]; exact List.cons_ne_nil _ _
  | [], k + 1, h => absurd h (by simp)
  | s :: r, k + 1, h => by
    have := tabs_some r k (by simpa using h)
    show (tabs r k).map (s :: ·) ++ tabs r (k + 1) ≠ []
    intro z
    have h1 := (List.append_eq_nil_iff.mp z).1
    exact this (List.map_eq_nil_iff.mp h1)
theorem step_pos : ∀ {c : Int} {xs r : List Int} {t : Int}, asc c r t → xs.Sublist r → 0 < stepL c xs t
  | c, [], r, t, h, _ => by
    have := h.end
    show 0 < t - c
    omega
  | c, x :: xs, [], t, h, hs => by cases hs
  | c, x :: xs, s :: r, t, h, hs => by
    cases hs with
    | cons _ hs => exact step_pos h.skip hs
    | cons_cons _ hs =>
      have := step_pos h.tail hs
      show 0 < max (x - c) (stepL x xs t)
      omega
/-- the least greatest step -/
def omin : Option Int → Option Int → Option Int
  | some a, some b => some (min a b)
  | some a, none => some a
  | none, b => b
def bst (t : Int) : Int → List Int → Nat → Option Int
  | c, _, 0 => some (t - c)
  | _, [], _ + 1 => none
  | c, s :: r, k + 1 => omin ((bst t s r k).map (max (s - c))) (bst t c r (k + 1))
theorem bst_zero (t c : Int) (r : List Int) : bst t c r 0 = some (t - c) := by cases r <;> rfl
def IsMin (L : Option Int) (ns : List Int) : Prop := (L = none ∧ ns = []) ∨ ∃ v, L = some v ∧ v ∈ ns ∧ ∀ n ∈ ns, v ≤ n
theorem omin_min {a b : Option Int} {ns ms : List Int} (h1 : IsMin a ns) (h2 : IsMin b ms) : IsMin (omin a b) (ns ++ ms) := by
  rcases h1 with ⟨rfl, rfl⟩ | ⟨v, rfl, hv, hm⟩
  · rw [List.nil_append]; exact h2
  · rcases h2 with ⟨rfl, rfl⟩ | ⟨u, rfl, hu, hn⟩
    · rw [List.append_nil]; exact .inr ⟨v, rfl, hv, hm⟩
    · refine .inr ⟨min v u, rfl, ?_, fun n hn' => ?_⟩
      · rcases Int.le_total v u with h | h
        · rw [Int.min_eq_left h]; exact List.mem_append_left _ hv
        · rw [Int.min_eq_right h]; exact List.mem_append_right _ hu
      · rcases List.mem_append.mp hn' with h | h
        · have := hm n h; omega
        · have := hn n h; omega
theorem map_min {a : Option Int} {ns : List Int} (d : Int) (h : IsMin a ns) : IsMin (a.map (max d)) (ns.map (max d)) := by
  rcases h with ⟨rfl, rfl⟩ | ⟨v, rfl, hv, hm⟩
  · exact .inl ⟨rfl, rfl⟩
  · refine .inr ⟨max d v, rfl, List.mem_map.mpr ⟨v, hv, rfl⟩, fun n hn => ?_⟩
    obtain ⟨u, hu, rfl⟩ := List.mem_map.mp hn
    have := hm u hu
    omega
theorem bst_min (t : Int) : ∀ (c : Int) (r : List Int) (k : Nat), IsMin (bst t c r k) ((tabs r k).map fun xs => stepL c xs t)
  | c, r, 0 => by
    rw [bst_zero, tabs_zero]
    exact .inr ⟨t - c, rfl, List.mem_singleton.mpr rfl, fun n hn => by rw [List.mem_singleton.mp hn]; exact Int.le_refl _⟩
  | c, [], k + 1 => .inl ⟨rfl, rfl⟩
  | c, s :: r, k + 1 => by
    have e : (tabs (s :: r) (k + 1)).map (fun xs => stepL c xs t) = ((tabs r k).map fun xs => stepL s xs t).map (max (s - c)) ++ (tabs r (k + 1)).map fun xs => stepL c xs t := by
      show ((tabs r k).map (s :: ·) ++ tabs r (k + 1)).map _ = _
      rw [List.map_append, List.map_map, List.map_map]
      rfl
    rw [e]
    exact omin_min (map_min _ (bst_min t s r k)) (bst_min t c r (k + 1))
theorem bst_some (t c : Int) {r : List Int} {k : Nat} (h : k ≤ r.length) : ∃ L, bst t c r k = some L := by
  rcases bst_min t c r k with ⟨_, e⟩ | ⟨v, e, _⟩
  · exact absurd (List.map_eq_nil_iff.mp e) (tabs_some r k h)
  · exact ⟨v, e⟩
theorem bst_pos {t c : Int} {r : List Int} {k : Nat} {L : Int} (h : asc c r t) (e : bst t c r k = some L) : 0 < L := by
  rcases bst_min t c r k with ⟨e', _⟩ | ⟨v, e', hv, _⟩
  · rw [e] at e'; cases e'
  · rw [e] at e'
    cases e'
    obtain ⟨xs, hx, rfl⟩ := List.mem_map.mp hv
    exact step_pos h (tabs_mem.mp hx).1
/-- the steps on, as the program lists them -/
def stepsF (t c : Int) (k : Nat) : List Int → List Int
  | [] => []
  | s :: r => (match bst t s r k with | some v => [max (s - c) v] | none => []) ++ stepsF t c k r
theorem steps_min (t c : Int) (k : Nat) : ∀ r, IsMin (bst t c r (k + 1)) (stepsF t c k r)
  | [] => .inl ⟨rfl, rfl⟩
  | s :: r => by
    refine omin_min ?_ (steps_min t c k r)
    cases bst t s r k with
    | none => exact .inl ⟨rfl, rfl⟩
    | some v => exact .inr ⟨_, rfl, List.mem_singleton.mpr rfl, fun n hn => by rw [List.mem_singleton.mp hn]; exact Int.le_refl _⟩
/-! ### tables with steps not too great -/
def goods (t step : Int) (c : Int) (r : List Int) (k : Nat) : List (List Int) := (tabs r k).filter fun xs => decide (stepL c xs t ≤ step)
theorem goods_zero (t step c : Int) (r : List Int) : goods t step c r 0 = if t - c ≤ step then [[]] else [] := by
  unfold goods
  rw [tabs_zero]
  by_cases h : t - c ≤ step
  · rw [if_pos h]
    exact List.filter_cons_of_pos (decide_eq_true h)
  · rw [if_neg h]
    exact List.filter_cons_of_neg (by rw [decide_eq_false (show ¬ stepL c [] t ≤ step from h)]; exact Bool.false_ne_true)
theorem goods_nil (t step c : Int) (k : Nat) : goods t step c [] (k + 1) = [] := rfl
theorem goods_cons (t step c s : Int) (r : List Int) (k : Nat) : goods t step c (s :: r) (k + 1) = (if s - c ≤ step then (goods t step s r k).map (s :: ·) else []) ++ goods t step c r (k + 1) := by
  unfold goods
  show ((tabs r k).map (s :: ·) ++ tabs r (k + 1)).filter _ = _
  rw [List.filter_append, List.filter_map]
  congr 1
  by_cases h : s - c ≤ step
  · rw [if_pos h]
    congr 1
    refine List.filter_congr fun xs _ => ?_
    show decide (max (s - c) (stepL s xs t) ≤ step) = _
    refine decide_eq_decide.mpr ?_
    omega
  · rw [if_neg h]
    refine List.map_eq_nil_iff.mpr (List.filter_eq_nil_iff.mpr fun xs _ => ?_)
    show ¬ decide (max (s - c) (stepL s xs t) ≤ step) = true
    rw [decide_eq_true_eq]
    omega
def cntG (t step : Int) (c : Int) (r : List Int) (k : Nat) : Nat := (goods t step c r k).length
theorem cnt_cons (t step c s : Int) (r : List Int) (k : Nat) : cntG t step c (s :: r) (k + 1) = (if s - c ≤ step then cntG t step s r k else 0) + cntG t step c r (k + 1) := by
  unfold cntG
  rw [goods_cons, List.length_append]
  by_cases h : s - c ≤ step
  · rw [if_pos h, if_pos h, List.length_map]
  · rw [if_neg h, if_neg h]; rfl
/-- the best ones are those whose steps are not too great -/
theorem goods_best {t c : Int} {r : List Int} {k : Nat} {L : Int} (e : bst t c r k = some L) : goods t L c r k = (tabs r k).filter fun xs => decide (stepL c xs t = L) := by
  rcases bst_min t c r k with ⟨e', _⟩ | ⟨v, e', _, hm⟩
  · rw [e] at e'; cases e'
  · rw [e] at e'
    cases e'
    unfold goods
    refine List.filter_congr fun xs hx => ?_
    have := hm _ (List.mem_map.mpr ⟨xs, hx, rfl⟩)
    refine decide_eq_decide.mpr ?_
    omega
theorem goods_some {t c : Int} {r : List Int} {k : Nat} {L : Int} (e : bst t c r k = some L) : 0 < cntG t L c r k := by
  rcases bst_min t c r k with ⟨e', _⟩ | ⟨v, e', hv, _⟩
  · rw [e] at e'; cases e'
  · rw [e] at e'
    cases e'
    obtain ⟨xs, hx, he⟩ := List.mem_map.mp hv
    unfold cntG goods
    refine List.length_pos_iff.mpr fun z => ?_
    have := List.filter_eq_nil_iff.mp z xs hx
    rw [decide_eq_true_eq] at this
    exact this (by show stepL c xs t ≤ _; rw [show stepL c xs t = L from he]; exact Int.le_refl _)
/-! ### lengths -/
def lens : Int → List Int → Int → List Int
  | c, [], t => [t - c]
  | c, x :: xs, t => (x - c) :: lens x xs t
theorem lens_len : ∀ (c : Int) (r : List Int) (t : Int), (lens c r t).length = r.length + 1
  | _, [], _ => rfl
  | _, x :: xs, t => by show (lens x xs t).length + 1 = _; rw [lens_len x xs t]; rfl
theorem lens_le : ∀ {r : List Int} {c t : Int} {ys : List Int}, asc c r t → ys.Sublist r → ∀ v ∈ lens c r t, v ≤ stepL c ys t
  | [], c, t, ys, h, hs, v, hv => by
    rw [List.sublist_nil.mp hs]
    rw [List.mem_singleton.mp hv]
    exact Int.le_refl _
  | s :: r, c, t, ys, h, hs, v, hv => by
    have hcs := h.lt
    cases hs with
    | cons _ hs =>
      have ih := lens_le h.skip hs
      have hle : ∀ {a b : Int} {zs : List Int}, a < b → stepL b zs t ≤ stepL a zs t := fun {a b zs} hab => by
        cases zs with
        | nil => show t - b ≤ t - a; omega
        | cons z zs => show max (z - b) (stepL z zs t) ≤ max (z - a) (stepL z zs t); omega
      rcases List.mem_cons.mp hv with rfl | hv
      · -- the first one
        cases r with
        | nil =>
          rw [List.sublist_nil.mp hs]
          have := h.tail.end
          show s - c ≤ t - c
          omega
        | cons s2 r2 =>
          have h2 := ih (s2 - c) List.mem_cons_self
          have := h.tail.lt
          omega
      · exact Int.le_trans (lens_le h.tail hs v hv) (hle hcs)
    | cons_cons _ hs =>
      rename_i ys'
      show v ≤ max (s - c) (stepL s ys' t)
      rcases List.mem_cons.mp hv with rfl | hv
      · omega
      · have := lens_le h.tail hs v hv
        omega
/-- one more start makes no step greater -/
theorem more_start : ∀ {r : List Int} {c t : Int} {k : Nat} {xs : List Int}, asc c r t → xs ∈ tabs r k → k < r.length → ∃ ys ∈ tabs r (k + 1), stepL c ys t ≤ stepL c xs t
  | [], _, _, _, _, _, _, hk => absurd hk (Nat.not_lt_zero _)
  | s :: r, c, t, k, xs, h, hx, hk => by
    obtain ⟨hx1, hx2⟩ := tabs_mem.mp hx
    cases hx1 with
    | cons _ hs =>
      refine ⟨s :: xs, tabs_mem.mpr ⟨hs.cons_cons s, by rw [List.length_cons, hx2]⟩, ?_⟩
      have hcs := h.lt
      have hst := h.tail.end
      cases xs with
      | nil => show max (s - c) (t - s) ≤ t - c; omega
      | cons x xs =>
        have : s < x := (List.pairwise_cons.mp h.tail.1).1 x (hs.subset List.mem_cons_self)
        show max (s - c) (max (x - s) (stepL x xs t)) ≤ max (x - c) (stepL x xs t)
        omega
    | cons_cons _ hs =>
      rename_i zs
      obtain ⟨ys, hy, hle⟩ := more_start h.tail (tabs_mem.mpr ⟨hs, rfl⟩) (by rw [← hx2, List.length_cons, List.length_cons] at hk; omega)
      obtain ⟨hy1, hy2⟩ := tabs_mem.mp hy
      refine ⟨s :: ys, tabs_mem.mpr ⟨hy1.cons_cons s, by rw [List.length_cons, hy2, ← hx2, List.length_cons]⟩, ?_⟩
      show max (s - c) (stepL s ys t) ≤ max (s - c) (stepL s zs t)
      omega
theorem more_starts {r : List Int} {c t : Int} (h : asc c r t) : ∀ (n k : Nat) {xs : List Int}, xs ∈ tabs r k → k + n ≤ r.length → ∃ ys ∈ tabs r (k + n), stepL c ys t ≤ stepL c xs t
  | 0, k, xs, hx, _ => ⟨xs, hx, Int.le_refl _⟩
  | n + 1, k, xs, hx, hk => by
    obtain ⟨ys, hy, h1⟩ := more_start h hx (by omega)
    obtain ⟨zs, hz, h2⟩ := more_starts h n (k + 1) hy (by omega)
    exact ⟨zs, by rw [show k + (n + 1) = k + 1 + n by omega]; exact hz, Int.le_trans h2 h1⟩
end My

namespace My
/-! ### numbered, runs, all tables of the law -/
theorem goods_at {t step c s : Int} {r : List Int} {k left : Nat} {tab : List Int} (h : (goods t step c (s :: r) (k + 1))[left]? = some tab) :
    (s - c ≤ step ∧ left < cntG t step s r k ∧ ∃ xs, tab = s :: xs ∧ (goods t step s r k)[left]? = some xs) ∨
    (¬ (s - c ≤ step ∧ left < cntG t step s r k) ∧ (goods t step c r (k + 1))[if s - c ≤ step then left - cntG t step s r k else left]? = some tab) := by
  rw [goods_cons] at h
  by_cases hs : s - c ≤ step
  · rw [if_pos hs] at h ⊢
    by_cases hl : left < cntG t step s r k
    · refine .inl ⟨hs, hl, ?_⟩
      unfold cntG at hl
      rw [List.getElem?_append_left (by rw [List.length_map]; exact hl), List.getElem?_map, List.getElem?_eq_getElem hl] at h
      exact ⟨_, (Option.some.inj h).symm, List.getElem?_eq_getElem hl⟩
    · refine .inr ⟨fun z => hl z.2, ?_⟩
      unfold cntG at hl ⊢
      rw [List.getElem?_append_right (by rw [List.length_map]; omega), List.length_map] at h
      exact h
  · rw [if_neg hs] at h ⊢
    exact .inr ⟨fun z => hs z.1, by rw [List.nil_append] at h; exact h⟩
/-! ### runs -/
def runsG (t step : Int) : List Int → Nat → Int → Nat → List (Nat × Nat)
  | [], _, _, _ => []
  | s :: r, low, cl, h => if r.headD t - cl ≥ step then (low, h) :: runsG t step r h s (h + 1) else runsG t step r low cl (h + 1)
theorem lens_head (s : Int) (r : List Int) (t : Int) : r.headD t - s ∈ lens s r t := by
  cases r with
  | nil => exact List.mem_cons_self
  | cons x r => exact List.mem_cons_self
theorem runs_table {t step : Int} : ∀ {rem : List Int} {low : Nat} {cl : Int} {h : Nat}, rem.headD t - cl < step → (∀ s r, rem = s :: r → ∀ v ∈ lens s r t, v < step) →
    ∃ xs : List Int, xs.Sublist rem ∧ xs.length = (runsG t step rem low cl h).length ∧ stepL cl xs t < step
  | [], low, cl, h, hp, _ => ⟨[], List.Sublist.slnil, rfl, hp⟩
  | s :: r, low, cl, h, hp, hl => by
    have hl' := hl s r rfl
    have hl2 : ∀ s2 r2, r = s2 :: r2 → ∀ v ∈ lens s2 r2 t, v < step := fun s2 r2 e v hv => hl' v (by rw [e]; exact List.mem_cons_of_mem _ hv)
    show ∃ xs : List Int, _ ∧ xs.length = (if r.headD t - cl ≥ step then (low, h) :: runsG t step r h s (h + 1) else runsG t step r low cl (h + 1)).length ∧ _
    by_cases c : r.headD t - cl ≥ step
    · rw [if_pos c]
      obtain ⟨xs, h1, h2, h3⟩ := runs_table (rem := r) (low := h) (cl := s) (h := h + 1) (hl' _ (lens_head s r t)) hl2
      refine ⟨s :: xs, h1.cons_cons s, by rw [List.length_cons, h2, List.length_cons], ?_⟩
      have : s - cl < step := hp
      show max (s - cl) (stepL s xs t) < step
      omega
    · rw [if_neg c]
      obtain ⟨xs, h1, h2, h3⟩ := runs_table (rem := r) (low := low) (cl := cl) (h := h + 1) (by omega) hl2
      exact ⟨xs, h1.cons s, h2, h3⟩
theorem runs_first {t step : Int} {r : List Int} (hl : ∀ v ∈ lens 0 r t, v < step) : runsG t step (0 :: r) 0 0 0 = runsG t step r 0 0 1 := by
  have := hl _ (lens_head 0 r t)
  show (if r.headD t - 0 ≥ step then _ else _) = _
  rw [if_neg (by omega)]
theorem runs_many {t L : Int} {r : List Int} {k : Nat} (h : asc 0 r t) (e : bst t 0 r k = some L) (hk : k ≤ r.length) (hl : ∀ v ∈ lens 0 r t, v < L) : k + 1 ≤ (runsG t L (0 :: r) 0 0 0).length := by
  rw [runs_first hl]
  obtain ⟨xs, h1, h2, h3⟩ := runs_table (t := t) (step := L) (rem := r) (low := 0) (cl := 0) (h := 1) (hl _ (lens_head 0 r t)) fun s r2 e2 v hv => hl v (by rw [e2]; exact List.mem_cons_of_mem _ hv)
  rcases Nat.lt_or_ge k (runsG t L r 0 0 1).length with c | c
  · exact c
  · obtain ⟨ys, hy, hle⟩ := more_starts h (k - xs.length) xs.length (tabs_mem.mpr ⟨h1, rfl⟩) (by omega)
    rw [show xs.length + (k - xs.length) = k by omega] at hy
    rcases bst_min t 0 r k with ⟨e', _⟩ | ⟨v, e', _, hm⟩
    · rw [e] at e'; cases e'
    · rw [e] at e'
      cases e'
      have := hm _ (List.mem_map.mpr ⟨ys, hy, rfl⟩)
      omega
theorem lens_lt {t L : Int} {r : List Int} {k : Nat} (h : asc 0 r t) (e : bst t 0 r k = some L) (hn : L ∉ lens 0 r t) : ∀ v ∈ lens 0 r t, v < L := fun v hv => by
  rcases bst_min t 0 r k with ⟨e', _⟩ | ⟨u, e', hu, _⟩
  · rw [e] at e'; cases e'
  · rw [e] at e'
    cases e'
    obtain ⟨ys, hy, rfl⟩ := List.mem_map.mp hu
    have := lens_le h (tabs_mem.mp hy).1 v hv
    have hne : v ≠ stepL 0 ys t := fun z => hn (z ▸ hv)
    show v < stepL 0 ys t
    omega
def endF (S : List Int) (t : Int) (b : Nat) : Int := (S.drop (b + 1)).headD t
theorem runs_ok {t step : Int} {S : List Int} : ∀ (n : Nat) {low h : Nat}, n = S.length - h → h ≤ S.length → low < h → (∀ p ∈ runsG t step (S.drop h) low (S.getD low 0) h, low ≤ p.1 ∧ p.1 < p.2 ∧ p.2 < S.length ∧ endF S t p.2 - S.getD p.1 0 ≥ step) ∧
    (runsG t step (S.drop h) low (S.getD low 0) h).Pairwise fun p q => p.2 ≤ q.1
  | 0, low, h, hn, hh, _ => by
    rw [List.drop_of_length_le (by omega)]
    exact ⟨(fun _ z => nomatch z), List.Pairwise.nil⟩
  | n + 1, low, h, hn, hh, hlh => by
    have hlt : h < S.length := by omega
    have ed : S.drop h = S.getD h 0 :: S.drop (h + 1) := by
      rw [List.drop_eq_getElem_cons hlt, List.getD_eq_getElem?_getD, List.getElem?_eq_getElem hlt]
      rfl
    rw [ed]
    show (∀ p ∈ (if endF S t h - S.getD low 0 ≥ step then (low, h) :: runsG t step (S.drop (h + 1)) h (S.getD h 0) (h + 1) else runsG t step (S.drop (h + 1)) low (S.getD low 0) (h + 1)), _) ∧ (if endF S t h - S.getD low 0 ≥ step then (low, h) :: runsG t step (S.drop (h + 1)) h (S.getD h 0) (h + 1) else runsG t step (S.drop (h + 1)) low (S.getD low 0) (h + 1)).Pairwise _
    by_cases c : endF S t h - S.getD low 0 ≥ step
    · rw [if_pos c]
      obtain ⟨h1, h2⟩ := runs_ok (t := t) (step := step) (S := S) n (low := h) (h := h + 1) (by omega) (by omega) (by omega)
      refine ⟨fun p hp => ?_, List.pairwise_cons.mpr ⟨fun q hq => (h1 q hq).1, h2⟩⟩
      rcases List.mem_cons.mp hp with rfl | hp
      · exact ⟨Nat.le_refl _, hlh, hlt, c⟩
      · have := h1 p hp
        exact ⟨by omega, this.2⟩
    · rw [if_neg c]
      exact runs_ok (t := t) (step := step) (S := S) n (low := low) (h := h + 1) (by omega) (by omega) (by omega)
/-- runs that show that no step is less -/
def RunOk (S : List Int) (t step : Int) (p : Int × Int) : Prop := 0 ≤ p.1 ∧ p.1 < p.2 ∧ p.2 < S.length ∧ endF S t p.2.toNat - S.getD p.1.toNat 0 ≥ step
def RunsOk (S : List Int) (t step : Int) (m : Nat) (ps : List (Int × Int)) : Prop := ps.length = m ∧ ∀ (i : Nat) (p : Int × Int), ps[i]? = some p → RunOk S t step p ∧ ∀ q, 0 < i → ps[i - 1]? = some q → q.2 ≤ p.1
def runsI (t step : Int) (r : List Int) (m : Nat) : List (Int × Int) := ((runsG t step (0 :: r) 0 0 0).take m).map fun p => ((p.1 : Int), (p.2 : Int))
theorem runsI_ok {t L : Int} {r : List Int} {k : Nat} (h : asc 0 r t) (e : bst t 0 r k = some L) (hk : k ≤ r.length) (hn : L ∉ lens 0 r t) : RunsOk (0 :: r) t L (k + 1) (runsI t L r (k + 1)) := by
  have hl := lens_lt h e hn
  have hm := runs_many h e hk hl
  obtain ⟨h1, h2⟩ := runs_ok (t := t) (step := L) (S := 0 :: r) r.length (low := 0) (h := 1) (by simp) (by simp) (by decide)
  have hf := runs_first (t := t) (step := L) (r := r) hl
  rw [show (0 :: r : List Int).drop 1 = r from rfl, show (0 :: r : List Int).getD 0 0 = 0 from rfl, ← hf] at h1 h2
  refine ⟨?_, fun i p hp => ?_⟩
  · unfold runsI
    rw [List.length_map, List.length_take]
    omega
  unfold runsI at hp
  rw [List.getElem?_map] at hp
  obtain ⟨a, ha, rfl⟩ := Option.map_eq_some_iff.mp hp
  have hat : ((runsG t L (0 :: r) 0 0 0).take (k + 1)).Pairwise fun p q => p.2 ≤ q.1 := h2.sublist (List.take_sublist _ _)
  have ham := List.mem_of_mem_take (List.mem_of_getElem? ha)
  obtain ⟨q0, q1, q2, q3⟩ := h1 a ham
  refine ⟨⟨by show (0 : Int) ≤ (a.1 : Int); omega, by show (a.1 : Int) < (a.2 : Int); omega, by show (a.2 : Int) < _; omega, q3⟩, fun b hi hb => ?_⟩
  unfold runsI at hb
  rw [List.getElem?_map] at hb
  obtain ⟨b', hb', rfl⟩ := Option.map_eq_some_iff.mp hb
  obtain ⟨i1, e1⟩ := List.getElem?_eq_some_iff.mp hb'
  obtain ⟨i2, e2⟩ := List.getElem?_eq_some_iff.mp ha
  have := List.pairwise_iff_getElem.mp hat (i - 1) i i1 i2 (by omega)
  rw [e1, e2] at this
  show (b'.2 : Int) ≤ (a.1 : Int)
  omega
/-! ### the law's tables -/
def subsF (m : Nat) (p : List Int) : List (List Int) := p.foldl (fun F s => F ++ (F.filter fun x => decide (x.length < m)).map fun x => x ++ [s]) [[0]]
theorem subs_next (m : Nat) (p : List Int) (s : Int) : subsF m (p ++ [s]) = subsF m p ++ ((subsF m p).filter fun x => decide (x.length < m)).map fun x => x ++ [s] := by
  unfold subsF
  rw [List.foldl_append]
  rfl
theorem snoc_ind {α : Type} {P : List α → Prop} (h0 : P []) (h1 : ∀ l a, P l → P (l ++ [a])) (l : List α) : P l := by
  have : ∀ n (l : List α), l.length = n → P l := fun n => by
    induction n with
    | zero => intro l hl; rw [List.length_eq_zero_iff.mp hl]; exact h0
    | succ n ih =>
      intro l hl
      have hne : l ≠ [] := fun z => by rw [z] at hl; cases hl
      rw [← List.dropLast_concat_getLast hne]
      exact h1 _ _ (ih _ (by rw [List.length_dropLast, hl]; rfl))
  exact this _ l rfl
theorem subs_len (m : Nat) (p : List Int) : (subsF m p).length ≤ 2 ^ p.length := by
  induction p using snoc_ind with
  | h0 => exact Nat.le_refl _
  | h1 p s ih =>
    rw [subs_next, List.length_append, List.length_map, List.length_append, List.length_singleton, Nat.pow_succ]
    have := List.length_filter_le (fun x : List Int => decide (x.length < m)) (subsF m p)
    omega
theorem subs_mem {m : Nat} (hm : 1 ≤ m) (p : List Int) : ∀ xs, xs ∈ subsF m p ↔ ∃ ys : List Int, xs = 0 :: ys ∧ ys.Sublist p ∧ ys.length + 1 ≤ m := by
  induction p using snoc_ind with
  | h0 =>
    intro xs
    show xs ∈ [[0]] ↔ _
    rw [List.mem_singleton]
    constructor
    · rintro rfl; exact ⟨[], rfl, List.Sublist.slnil, hm⟩
    · rintro ⟨ys, rfl, h, _⟩; rw [List.sublist_nil.mp h]
  | h1 p s ih =>
    intro xs
    rw [subs_next, List.mem_append, ih, List.mem_map]
    constructor
    · rintro (⟨ys, rfl, h, h2⟩ | ⟨x, hx, rfl⟩)
      · exact ⟨ys, rfl, h.trans (List.sublist_append_left p [s]), h2⟩
      · rw [List.mem_filter, ih, decide_eq_true_eq] at hx
        obtain ⟨⟨ys, rfl, h, _⟩, h3⟩ := hx
        refine ⟨ys ++ [s], rfl, h.append (List.Sublist.refl [s]), ?_⟩
        rw [List.length_cons] at h3
        rw [List.length_append, List.length_singleton]
        omega
    · rintro ⟨ys, rfl, h, h2⟩
      obtain ⟨as, bs, rfl, h3, h4⟩ := List.sublist_append_iff.mp h
      cases bs with
      | nil =>
        rw [List.append_nil] at h2 ⊢
        exact .inl ⟨as, rfl, h3, h2⟩
      | cons b bs =>
        have hb : b = s ∧ bs = [] := by
          cases h4 with
          | cons _ h => cases h
          | cons_cons _ h => exact ⟨rfl, List.sublist_nil.mp h⟩
        obtain ⟨rfl, rfl⟩ := hb
        rw [List.length_append, List.length_singleton] at h2
        exact .inr ⟨0 :: as, by rw [List.mem_filter, ih, decide_eq_true_eq]; exact ⟨⟨as, rfl, h3, by omega⟩, by rw [List.length_cons]; omega⟩, rfl⟩
theorem subs_nodup {m : Nat} (hm : 1 ≤ m) (p : List Int) (hp : p.Pairwise (· < ·)) : (subsF m p).Nodup := by
  induction p using snoc_ind with
  | h0 => simp [subsF]
  | h1 p s ih =>
    obtain ⟨hp1, _, hp2⟩ := List.pairwise_append.mp hp
    rw [subs_next]
    refine List.nodup_append.mpr ⟨ih hp1, ?_, fun a ha b hb e => ?_⟩
    · refine List.Pairwise.map _ (fun a b h e => h (List.append_cancel_right e)) ((ih hp1).sublist List.filter_sublist)
    · obtain ⟨x, _, rfl⟩ := List.mem_map.mp hb
      obtain ⟨ys, rfl, h, _⟩ := (subs_mem hm p _).mp ha
      have h1 : s ∈ x ++ [s] := List.mem_append_right _ (List.mem_singleton.mpr rfl)
      have hx0 : x ≠ [] := fun z => by
        have hx2 := (List.mem_map.mp hb)
        obtain ⟨x', hx', e'⟩ := hx2
        have : x' = x := List.append_cancel_right e'
        subst this
        obtain ⟨zs, hz, _⟩ := (subs_mem hm p _).mp (List.mem_filter.mp hx').1
        rw [z] at hz; cases hz
      cases x with
      | nil => exact hx0 rfl
      | cons x0 xr =>
        have e2 : ys = xr ++ [s] := by
          have : (0 : Int) :: ys = x0 :: (xr ++ [s]) := e
          injection this
        have hs : s ∈ p := h.subset (by rw [e2]; exact List.mem_append_right _ (List.mem_singleton.mpr rfl))
        have := hp2 s hs s (List.mem_singleton.mpr rfl)
        omega
def tables (r : List Int) (k : Nat) : List (List Int) := (tabs r k).map (0 :: ·)
theorem subs_perm {k : Nat} {r : List Int} (hp : r.Pairwise (· < ·)) : ((subsF (k + 1) r).filter fun x => decide (x.length = k + 1)).Perm (tables r k) := by
  refine (List.perm_ext_iff_of_nodup ((subs_nodup (by omega) r hp).sublist List.filter_sublist) ?_).mpr fun xs => ?_
  · have hnd : (tabs r k).Pairwise (· ≠ ·) := (tabs_sorted hp).imp fun {a b} h e => by rw [e] at h; exact List.lt_irrefl _ h
    exact List.Pairwise.map _ (fun a b h e => h (by injection e)) hnd
  · rw [List.mem_filter, subs_mem (by omega), decide_eq_true_eq]
    unfold tables
    rw [List.mem_map]
    constructor
    · rintro ⟨⟨ys, rfl, h, _⟩, h2⟩
      exact ⟨ys, tabs_mem.mpr ⟨h, by simpa using h2⟩, rfl⟩
    · rintro ⟨ys, hy, rfl⟩
      obtain ⟨h1, h2⟩ := tabs_mem.mp hy
      exact ⟨⟨ys, rfl, h1, by omega⟩, by rw [List.length_cons, h2]⟩
theorem tables_sorted {k : Nat} {r : List Int} (hp : r.Pairwise (· < ·)) : (tables r k).Pairwise (· ≤ ·) := by
  unfold tables
  rw [List.pairwise_map]
  exact (tabs_sorted hp).imp fun {a b} h => List.le_of_lt (List.cons_lt_cons_iff.mpr (.inr ⟨rfl, h⟩))
theorem sorted_tables {k : Nat} {r : List Int} (hp : r.Pairwise (· < ·)) {qs : List (List Int)} (h : qs.Perm ((subsF (k + 1) r).filter fun x => decide (x.length = k + 1))) (hs : qs.Pairwise (· ≤ ·)) : qs = tables r k :=
  List.Perm.eq_of_pairwise (fun a b _ _ h1 h2 => List.le_antisymm h1 h2) hs (tables_sorted hp) (h.trans (subs_perm hp))
end My

namespace My
open PySem PySem.Spec PyProof.Rows L2 Pre
/-! ### starts: what is asked of them -/
def isI : V → Bool
  | .int _ => true
  | _ => false
/-- an item that may stand in a list -/
def Item (K : PySem.W.Frag) (H : Hp) (x : V) : Prop := (∃ i, x = .int i) ∨ (isI x = false ∧ BadN K H x ∧ ∃ d, Dp K H x d ∧ PyData.canLay0 d = true ∧ PyData.depth d ≤ 1)
theorem Item.same {K : PySem.W.Frag} {H H' : Hp} {x : V} (s : Same H H') (h : Item K H x) : Item K H' x := by
  rcases h with h | ⟨a, b, d, e, f⟩
  · exact .inl h
  · exact .inr ⟨a, b.same s, d, Pre.dp_same s _ _ e, f⟩
/-- what is no list -/
def NoL (K : PySem.W.Frag) (H : Hp) (v : V) : Prop := ∃ T : String, TyX K H v (.type T) ∧ kitB T "list" = some false
theorem NoL.same {K : PySem.W.Frag} {H H' : Hp} {v : V} (s : Same H H') (h : NoL K H v) : NoL K H' v := by
  obtain ⟨T, ty, e⟩ := h
  exact ⟨T, ty.same s, e⟩
theorem bad_data {K : PySem.W.Frag} {H : Hp} : ∀ xs : List V, (∀ x ∈ xs, Item K H x) → ∃ ds, DpAll K H (xs.filter fun x => !isI x) ds ∧ PyData.canLayAll0 ds = true ∧ PyData.depthAll ds ≤ 1 ∧ (ds = [] ↔ xs.all isI = true)
  | [], _ => ⟨[], .nil, rfl, by rw [PyData.depthAll]; decide, by simp⟩
  | x :: r, h => by
    obtain ⟨ds, h1, h2, h3, h4⟩ := bad_data r fun y hy => h y (List.mem_cons_of_mem _ hy)
    rcases h x List.mem_cons_self with ⟨i, rfl⟩ | ⟨a, _, d, e, f, g⟩
    · exact ⟨ds, h1, h2, h3, by rw [h4]; simp [isI]⟩
    · refine ⟨d :: ds, ?_, by rw [PyData.canLayAll0, h2, f]; rfl, by rw [PyData.depthAll]; omega, by simp [a]⟩
      rw [List.filter_cons, if_pos (by rw [a]; rfl)]
      exact .cons e h1
theorem dpAll_same {K : PySem.W.Frag} {H H' : Hp} (s : Same H H') : ∀ {xs : List V} {ds : List PyData}, DpAll K H xs ds → DpAll K H' xs ds
  | _, _, .nil => .nil
  | _, _, .cons h t => .cons (Pre.dp_same s _ _ h) (dpAll_same s t)
theorem all_ints : ∀ ws : List Int, (ws.map V.int).all isI = true
  | [] => rfl
  | w :: r => by rw [List.map_cons, List.all_cons, all_ints r]; rfl
theorem simple_ints {K : PySem.W.Frag} {H : Hp} (ws : List Int) : ∀ x ∈ ws.map V.int, Item K H x := fun x hx => by
  obtain ⟨i, _, rfl⟩ := List.mem_map.mp hx
  exact .inl ⟨i, rfl⟩
def EE (H : Hp) (E : XK) (C : Addr) (v : V) : Prop := ∀ H' dd, Same H H' → H' dd = none → E (.ref C) (some dd) (upd H' dd (.xd [("value", v)]))
theorem EE.same {H H1 : Hp} {E : XK} {C : Addr} {v : V} (s : Same H H1) (h : EE H E C v) : EE H1 E C v := fun H' dd s' nd => h H' dd (s.trans s') nd
theorem asc_of : ∀ {S : List Int}, (∀ i, i + 1 < S.length → S.getD i 0 < S.getD (i + 1) 0) → S.Pairwise (· < ·)
  | [], _ => List.Pairwise.nil
  | [x], _ => List.pairwise_singleton _ _
  | x :: y :: r, h => by
    have ih := asc_of (S := y :: r) fun i hi => h (i + 1) (by simpa using hi)
    have h0 : x < y := h 0 (by simp)
    refine List.pairwise_cons.mpr ⟨fun z hz => ?_, ih⟩
    rcases List.mem_cons.mp hz with rfl | hz
    · exact h0
    · have := (List.pairwise_cons.mp ih).1 z hz
      omega
def badAt (S : List Int) : List Int := ((List.range (S.length - 1)).filter fun i => decide (S.getD i 0 ≥ S.getD (i + 1) 0)).map fun (i : Nat) => 1 + (i : Int)
theorem badAt_nil {S : List Int} : badAt S = [] ↔ S.Pairwise (· < ·) := by
  unfold badAt
  rw [List.map_eq_nil_iff, List.filter_eq_nil_iff]
  constructor
  · intro h
    refine asc_of fun i hi => ?_
    have := h i (List.mem_range.mpr (by omega))
    rw [decide_eq_true_eq] at this
    omega
  · intro h i hi
    have hi := List.mem_range.mp hi
    have := List.pairwise_iff_getElem.mp h i (i + 1) (by omega) (by omega) (by omega)
    rw [decide_eq_true_eq, List.getD_eq_getElem?_getD, List.getD_eq_getElem?_getD, List.getElem?_eq_getElem (by omega), List.getElem?_eq_getElem (by omega)]
    show ¬ S[i] ≥ S[i + 1]
    omega
theorem sel_bad (n : Nat) (p : Nat → Prop) [DecidablePred p] : ((List.range n).map fun i => if p i then some (V.int (1 + (i : Int))) else none).filterMap id = (((List.range n).filter fun i => decide (p i)).map fun (i : Nat) => 1 + (i : Int)).map V.int := by
  induction List.range n with
  | nil => rfl
  | cons x r ih =>
    rw [List.map_cons, List.filterMap_cons, List.filter_cons]
    by_cases c : p x
    · rw [if_pos c, if_pos (decide_eq_true c), List.map_cons, List.map_cons, ← ih]; rfl
    · rw [if_neg c, if_neg (by simpa using c), ← ih]; rfl
/-- good starts -/
def GoodI (S : List Int) : Prop := S.length ≤ 60 ∧ S.Pairwise (· < ·) ∧ ∃ r, S = 0 :: r
def BadI (ns : List Int) : Prop := ns.length = 0 ∨ 60 < ns.length ∨ (∃ n r, ns = n :: r ∧ n ≠ 0) ∨ ¬ ns.Pairwise (· < ·)
/-- what is wrong with starts -/
def BadS (K : PySem.W.Frag) (H : Hp) (v : V) : Prop := NoL K H v ∨ (∃ (a : Addr) (xs : List V), v = .ref a ∧ H a = some (.lst xs) ∧ xs.length ≤ 1000 ∧ (∀ x ∈ xs, Item K H x) ∧ xs.all isI = false) ∨
  ∃ (a : Addr) (ns : List Int), v = .ref a ∧ H a = some (.lst (ns.map V.int)) ∧ ns.length ≤ 1000 ∧ BadI ns
def lastI (S : List Int) : Int := S.getD (S.length - 1) 0
theorem at_lastI {S : List Int} (h : S ≠ []) : atI (S.map V.int) (-1) = some (.int (lastI S)) := by
  have hl : 0 < S.length := List.length_pos_iff.mpr h
  unfold atI
  unfold ixN
  rw [List.length_map, if_neg (by omega), if_pos (by omega)]
  rw [show (-1 + (S.length : Int)).toNat = S.length - 1 by omega]
  show (S.map V.int)[S.length - 1]? = _
  unfold lastI
  rw [List.getElem?_map, List.getElem?_eq_getElem (by omega), List.getD_eq_getElem?_getD, List.getElem?_eq_getElem (by omega)]
  rfl
theorem at_int {S : List Int} {k : Nat} {z : Int} (e : z = (k : Int)) (h : k < S.length) : atI (S.map V.int) z = some (.int (S.getD k 0)) := by
  refine at_of (j := k) e ?_
  rw [List.getElem?_map, List.getD_eq_getElem?_getD, List.getElem?_eq_getElem h]
  rfl
local macro_rules | `(tactic| walk_at "go") => `(tactic| repeat (first | (with_reducible first | refine iteT ?_ | refine iteF ?_ | refine iteNtt ?_ | refine iteNff ?_ | refine iteET (by omega) ?_ | refine iteEF (by omega) ?_ | refine iteENT (by omega) ?_ | refine iteENF (by omega) ?_ | refine iteDT (by omega) ?_ | refine iteDF (by omega) ?_ | refine iteNT (by omega) ?_ | refine iteNF (by omega) ?_) | refine ⟨_, rfl, ?_⟩ | refine ⟨_, _, rfl, rfl, ?_⟩ | refine ⟨_, _, rfl, ?_⟩ | refine ⟨rfl, ?_⟩ | refine .inl ⟨_, rfl, ?_⟩ | refine .inr ⟨_, rfl, ?_⟩))
local macro_rules | `(tactic| walk_at "b") => `(tactic| try dsimp (config := { proj := false, iota := false, eta := false, zeta := false }) only)
section
variable {P : Program} {w : World} {K : PySem.W.Frag} {mg : Str → Option Value} {base : Heap} [pf : Sup.PF P fileS]
def sp_are_wholes (K : PySem.W.Frag) : Sp := fun vs H Q _ => ∃ v : V, vs = [v] ∧ ((NoL K H v ∧ Q (.bl false) H) ∨ ∃ (a : Addr) (xs : List V), v = .ref a ∧ H a = some (.lst xs) ∧ xs.length ≤ 1000 ∧ (∀ x ∈ xs, Item K H x) ∧ ∀ H', Same H H' → Q (.bl (xs.all isI)) H')
theorem G_are_wholes (T : Top K mg) : FnOk P w K mg base CX0 2 T.f_are_wholes T.fd_are_wholes ["value"] (sp_are_wholes K) := by
  refine T.F_are_wholes.ok sc_are_wholes (fun vs H Q E h => by obtain ⟨v, rfl, _⟩ := h; rfl) (fun cdv A outer s H vs Q E hr h => ?_)
  obtain ⟨v, rfl, h⟩ := h
  refine ⟨_, PSs.nox (pss_one (ps_ret (pe_and (pe_callB (k_isi K rfl) (by rfl) T.n_isinstance (by decide +kernel) (pa_cons (pv 0) (pa_cons (pe_bltn (v := .ty "list") (by rfl) T.n_list (by decide +kernel) rfl) pa_nil))) (pe_one (pe_cmpR (k_eqD K rfl hr.units) (pe_lc (own := [("item", 1)]) (g := gName 1) (by rfl) sc_are_wholes.nd (k_piL K rfl (pv 0)) (blkOk_by (own := [("item", 1)]) (N := N_are_wholes) (sc := defScope s_are_wholes) (by decide +kernel)) (fun _ _ _ _ _ => (pg_name (i := 1) sc_are_wholes.nd rfl (by first | exact Or.inl rfl | exact Or.inr rfl))) (fun _ _ _ _ _ => (pts_one (pt_not (pt_val (pe_call (G_is_whole (P := P) T) (hr.mono (by decide)) (by rfl) T.g_is_whole T.F_is_whole.kp T.b_is_whole .nil pass0 (pa_cons (pv 1) pa_nil)))))) (fun _ _ _ _ _ => (pv 1))) (pe_lst pa_nil) (nomark _)))))), ?_⟩
  rcases h with ⟨⟨T, ty, hT⟩, q⟩ | ⟨a, xs, rfl, ha, hz, hs, q⟩
  · exact ⟨_, rfl, _, _, _, _, false, rfl, .ty _, ty, kit_ty hT, false, rfl, iteF q⟩
  · refine ⟨_, rfl, _, _, _, _, true, rfl, .ty _, .base (.lst ha), kit_ty (by decide +kernel), true, rfl, iteT ?_⟩
    refine ⟨_, rfl, a, rfl, ⟨_, .inl (.inl ha)⟩, fun D nD => ?_⟩
    refine lc_selL (K := K) (xs := xs) (xs.map fun x => if (!isI x) = true then some x else none) nD (.inl (.inl ha)) (by rw [List.length_map]) (small4 (by omega)) (fun x => rfl) ?_ ?_
    · intro i x o H' hx ho s Qt qt
      rw [List.getElem?_map, hx] at ho
      cases ho
      dsimp only at qt
      rcases hs x (List.mem_of_getElem? hx) with ⟨i, rfl⟩ | ⟨a, b, _⟩
      · exact ⟨_, rfl, _, rfl, .inl ⟨i, rfl, _, rfl, iteF (qt _ (Same.refl _))⟩⟩
      · rw [if_pos (by rw [a]; rfl)] at qt
        exact ⟨_, rfl, _, rfl, .inr ⟨b.same s, _, rfl, iteT ⟨_, rfl, qt _ (Same.refl _)⟩⟩⟩
    · intro H1 s1 hD
      obtain ⟨ds, d1, d2, d3, d4⟩ := bad_data xs hs
      have ef : (xs.map fun x => if (!isI x) = true then some x else none).filterMap id = xs.filter fun x => !isI x := by
        clear hD d1 d2 d3 d4 ha hz hs q
        induction xs with
        | nil => rfl
        | cons x r ih =>
          rw [List.map_cons, List.filterMap_cons, List.filter_cons]
          by_cases c : (!isI x) = true
          · rw [if_pos c, if_pos c, ← ih]; rfl
          · rw [if_neg c, if_neg c, ← ih]; rfl
      rw [ef] at hD
      refine ⟨Nat.zero_le _, fun p np => ?_⟩
      have sh : SeqAt.shaped (.list ds) = true := by
        unfold SeqAt.shaped
        rw [PyData.canLay0, d2, PyData.depth, Bool.true_and]
        exact decide_eq_true (by omega)
      refine ⟨.list ds, .list [], .lst (.inl (.inl (same_upd np _ _ hD))) (dpAll_same (s1.trans (same_upd np)) d1), .lst (.inl (.inl upd_same)) .nil, sh, rfl, ?_⟩
      have ee : PyData.eqv (.list ds) (.list []) = xs.all isI := by
        rw [Bool.eq_iff_iff, ← d4]
        cases ds with
        | nil => exact ⟨fun _ => rfl, fun _ => rfl⟩
        | cons y r => exact ⟨fun h => (by cases h), fun h => (by cases h)⟩
      rw [ee]
      exact q _ (s1.trans (same_upd np))
/-- what comes behind good starts -/
def Behind (K : PySem.W.Frag) (H : Hp) (E : XK) (CN : Addr) (S : List Int) (tv mv : V) (q : Prop) : Prop := ∃ b, NumV K H tv (lastI S + 1) none b ∧ (b = false → EE H E CN tv) ∧ (b = true → ∃ b2, NumV K H mv 1 (some (S.length : Int)) b2 ∧ (b2 = false → EE H E CN mv) ∧ (b2 = true → q))
theorem Behind.good {K : PySem.W.Frag} {H : Hp} {E : XK} {CN : Addr} {S : List Int} {t : Int} {m : Nat} {q : Prop} (ht : lastI S < t) (h1 : 1 ≤ m) (h2 : m ≤ S.length) (hq : q) : Behind K H E CN S (.int t) (.int m) q :=
  ⟨true, .inl ⟨t, rfl, (decide_eq_true ⟨by omega, fun j h => nomatch h⟩).symm⟩, (fun z => nomatch z), fun _ => ⟨true, .inl ⟨m, rfl, (decide_eq_true ⟨by omega, fun j h => by cases h; omega⟩).symm⟩, (fun z => nomatch z), fun _ => hq⟩⟩
def StartsV (K : PySem.W.Frag) (H : Hp) (E : XK) (CS CN : Addr) (v tv mv : V) (q : Addr → List Int → Prop) : Prop :=
  (NoL K H v ∧ EE H E CS v) ∨ (∃ (a : Addr) (xs : List V), v = .ref a ∧ H a = some (.lst xs) ∧ xs.length ≤ 1000 ∧ (∀ x ∈ xs, Item K H x) ∧ xs.all isI = false ∧ EE H E CS v) ∨
    ∃ (a : Addr) (S : List Int), v = .ref a ∧ H a = some (.lst (S.map V.int)) ∧ S.length ≤ 1000 ∧ ((BadI S ∧ EE H E CS v) ∨ (GoodI S ∧ Behind K H E CN S tv mv (q a S)))
theorem StartsV.bad {K : PySem.W.Frag} {H : Hp} {E : XK} {CS CN : Addr} {v tv mv : V} {q : Addr → List Int → Prop} (h : BadS K H v) (e : EE H E CS v) : StartsV K H E CS CN v tv mv q := by
  rcases h with h | ⟨a, xs, e1, e2, e3, e4, e5⟩ | ⟨a, ns, e1, e2, e3, e4⟩
  · exact .inl ⟨h, e⟩
  · exact .inr (.inl ⟨a, xs, e1, e2, e3, e4, e5, e⟩)
  · exact .inr (.inr ⟨a, ns, e1, e2, e3, .inl ⟨e4, e⟩⟩)
theorem Behind.mono {K : PySem.W.Frag} {H : Hp} {E : XK} {CN : Addr} {S : List Int} {tv mv : V} {p q : Prop} (h : Behind K H E CN S tv mv p) (k : p → q) : Behind K H E CN S tv mv q := by
  obtain ⟨b, h1, h2, h3⟩ := h
  refine ⟨b, h1, h2, fun e => ?_⟩
  obtain ⟨b2, h4, h5, h6⟩ := h3 e
  exact ⟨b2, h4, h5, fun e => k (h6 e)⟩
theorem StartsV.mono {K : PySem.W.Frag} {H : Hp} {E : XK} {CS CN : Addr} {v tv mv : V} {p q : Addr → List Int → Prop} (h : StartsV K H E CS CN v tv mv p) (k : ∀ a S, v = .ref a → H a = some (.lst (S.map V.int)) → GoodI S → p a S → q a S) : StartsV K H E CS CN v tv mv q := by
  rcases h with h | h | ⟨a, S, e1, e2, e3, h | ⟨hg, h⟩⟩
  · exact .inl h
  · exact .inr (.inl h)
  · exact .inr (.inr ⟨a, S, e1, e2, e3, .inl h⟩)
  · exact .inr (.inr ⟨a, S, e1, e2, e3, .inr ⟨hg, h.mono (k a S e1 e2 hg)⟩⟩)
def sp_check_starts (K : PySem.W.Frag) (CS CN : Addr) : Sp := fun vs H Q E => ∃ v tv mv : V, vs = [v, tv, mv] ∧ StartsV K H E CS CN v tv mv fun _ _ => ∀ H', Same H H' → Q .non H'
theorem G_check_starts (T : Top K mg) : FnOk P w K mg base (L2.CX P w) 4 T.f_check_starts T.fd_check_starts ["starts", "total", "many"] (sp_check_starts K T.C_InvalidStarts T.C_InvalidNumber) := by
  refine T.F_check_starts.ok (CX := L2.CX P w) sc_check_starts (fun vs H Q E h => by obtain ⟨v, tv, mv, rfl, _⟩ := h; rfl) (fun cdv A outer s H vs Q E hr h => ?_)
  obtain ⟨v, tv, mv, rfl, h⟩ := h
  refine ⟨_, (pss_cons (ps_if (PW.pt (pw_or (pt_not (pt_val (pe_call (G_are_wholes (P := P) T) (hr.mono (by decide)) (by rfl) T.g_are_wholes T.F_are_wholes.kp T.b_are_wholes .nil pass0 (pa_cons (pv 0) pa_nil)))) (pw_or (pt_not (pt_chain op_le op_le pe_int (pe_callB (k_len K rfl) (by rfl) T.n_len (by decide +kernel) (pa_cons (pv 0) pa_nil)) (pe_glob (v := .int 60) rfl T.m_MOST_STARTS ⟨_, rfl⟩))) (pw_or1 (pt_cmpR op_ne (pe_ix (k_ixL K rfl) (pv 0) pe_int (fun _ _ => rfl)) pe_int (nomark _))))))
    (pss_one (ps_raise rfl (takes_of rfl rfl rfl rfl) (pmk_oex T.er_InvalidStarts.sup.T T.er_InvalidStarts.ini T.er_InvalidStarts.ity (G_InvalidStarts___init__ (P := P) (CX := CX0) T) (hr.mono (by decide)) T.er_InvalidStarts.bnd .nil pass0 (by rfl) T.gc_InvalidStarts (pa_cons (pv 0) pa_nil))))
    pss_nil)
  (pss_cons (ps_if (pt_cmpR (k_neD K rfl hr.units) (pe_lc (own := [("at", 3)]) (g := gName 3) (by rfl) sc_check_starts.nd (pi_range2 (by rfl) T.n_range (pa_cons pe_int (pa_cons (pe_callB (k_len K rfl) (by rfl) T.n_len (by decide +kernel) (pa_cons (pv 0) pa_nil)) pa_nil))) (blkOk_by (own := [("at", 3)]) (N := N_check_starts) (sc := defScope s_check_starts) (by decide +kernel)) (fun _ _ _ _ _ => (pg_name (i := 3) sc_check_starts.nd rfl (by first | exact Or.inl rfl | exact Or.inr rfl))) (fun _ _ _ _ _ => (pts_one (pt_cmpR op_ge (pe_ix (k_ixL K rfl) (pv 0) (pe_op op_sub (pv 3) pe_int) (fun _ _ => rfl)) (pe_ix (k_ixL K rfl) (pv 0) (pv 3) (fun _ _ => rfl)) (nomark _)))) (fun _ _ _ _ _ => (pv 3))) (pe_lst pa_nil) (nomark _))
    (pss_one (ps_raise rfl (takes_of rfl rfl rfl rfl) (pmk_oex T.er_InvalidStarts.sup.T T.er_InvalidStarts.ini T.er_InvalidStarts.ity (G_InvalidStarts___init__ (P := P) (CX := CX0) T) (hr.mono (by decide)) T.er_InvalidStarts.bnd .nil pass0 (by rfl) T.gc_InvalidStarts (pa_cons (pv 0) pa_nil))))
    pss_nil)
  (pss_cons (ps_expr (pe_call (G_check_number (P := P) T) (hr.mono (by decide)) (by rfl) T.g_check_number T.F_check_number.kp T.b_check_number .nil (passes_call (takes_of rfl rfl rfl rfl) (fun _ _ _ _ h => h)) (pa_cons (pv 1) (pa_cons (pe_op op_add (pe_ix (k_ixL K rfl) (pv 0) (pe_un un_neg pe_int) (fun _ _ => rfl)) pe_int) (pa_cons pe_non pa_nil)))))
  (pss_one (ps_expr (pe_call (G_check_number (P := P) T) (hr.mono (by decide)) (by rfl) T.g_check_number T.F_check_number.kp T.b_check_number .nil (passes_call (takes_of rfl rfl rfl rfl) (fun _ _ _ _ h => h)) (pa_cons (pv 2) (pa_cons pe_int (pa_cons (pe_callB (k_len K rfl) (by rfl) T.n_len (by decide +kernel) (pa_cons (pv 0) pa_nil)) pa_nil))))))))), ?_⟩
  rcases h with ⟨hb, q⟩ | ⟨a, xs, rfl, ha, hz, hs, hb, q⟩ | ⟨a, S, rfl, ha, hz, h⟩
  · refine ⟨_, rfl, v, rfl, .inl ⟨hb, _, rfl, iteT ?_⟩⟩
    exact ⟨_, rfl, mk_sup fun dd nd => q _ dd (Same.refl _) nd⟩
  · refine ⟨_, rfl, _, rfl, .inr ⟨a, xs, rfl, ha, hz, hs, fun H1 s1 => ?_⟩⟩
    rw [hb]
    exact ⟨_, rfl, iteT ⟨_, rfl, mk_sup fun dd nd => q _ dd s1 nd⟩⟩
  · refine ⟨_, rfl, _, rfl, .inr ⟨a, _, rfl, ha, by rw [List.length_map]; exact hz, simple_ints _, fun H1 s1 => ?_⟩⟩
    rw [all_ints]
    refine ⟨_, rfl, iteF ?_⟩
    have hS : SqL K H1 a (S.map V.int) := .inl (.inl (s1 _ _ ha))
    refine ⟨_, rfl, a, _, rfl, .inl hS, _, _, rfl, rfl, _, rfl, ?_⟩
    rw [List.length_map]
    by_cases c1 : 1 ≤ S.length
    rotate_left
    · have hq : EE H E T.C_InvalidStarts (.ref a) := by
        rcases h with ⟨_, q⟩ | ⟨⟨_, _, r, rfl⟩, _⟩
        · exact q
        · simp at c1
      rw [decide_eq_false (show ¬ (1 : Int) ≤ (S.length : Int) by omega)]
      refine iteF ⟨_, rfl, iteT ⟨_, rfl, mk_sup fun dd nd => hq _ dd s1 nd⟩⟩
    rw [decide_eq_true (show (1 : Int) ≤ (S.length : Int) by omega)]
    refine iteT ⟨_, _, rfl, rfl, _, rfl, ?_⟩
    by_cases c2 : S.length ≤ 60
    rotate_left
    · have hq : EE H E T.C_InvalidStarts (.ref a) := by
        rcases h with ⟨_, q⟩ | ⟨⟨c, _⟩, _⟩
        · exact q
        · exact absurd c c2
      rw [decide_eq_false (show ¬ (S.length : Int) ≤ 60 by omega)]
      refine iteT ⟨_, rfl, mk_sup fun dd nd => hq _ dd s1 nd⟩
    rw [decide_eq_true (show (S.length : Int) ≤ 60 by omega)]
    refine iteF ⟨_, rfl, a, _, 0, .int (S.getD 0 0), rfl, rfl, hS, at_int (k := 0) rfl (by omega), rfl, _, rfl, ?_⟩
    by_cases c3 : S.getD 0 0 = 0
    rotate_left
    · have hq : EE H E T.C_InvalidStarts (.ref a) := by
        rcases h with ⟨_, q⟩ | ⟨⟨_, _, r, rfl⟩, _⟩
        · exact q
        · exact absurd rfl c3
      rw [decide_eq_false (fun z => c3 (V.int.inj z))]
      refine iteT ⟨_, rfl, mk_sup fun dd nd => hq _ dd s1 nd⟩
    rw [decide_eq_true (congrArg V.int c3)]
    refine iteF ?_
    have hml : (S.map V.int).length = S.length := List.length_map _
    refine ⟨_, rfl, a, _, rfl, .inl hS, _, _, rfl, ⟨by decide, by decide, by omega, by omega⟩, fun D nD => ?_⟩
    rw [show (((S.map V.int).length : Int) - 1).toNat = S.length - 1 by omega]
    refine lc_selR (lo := 1) (n := S.length - 1) ((List.range (S.length - 1)).map fun i => if S.getD i 0 ≥ S.getD (i + 1) 0 then some (V.int (1 + (i : Int))) else none) nD (by rw [List.length_map, List.length_range]) (small4 (by omega)) (fun x => rfl) ?_ ?_
    · intro i o H' hi ho s Qt qt
      rw [List.getElem?_map, List.getElem?_range hi] at ho
      cases ho
      refine ⟨_, rfl, _, rfl, _, _, rfl, rfl, a, _, _, .int (S.getD i 0), rfl, rfl, s.seq hS, at_int (k := i) (by omega) (by omega), ?_⟩
      refine ⟨_, rfl, _, rfl, a, _, _, .int (S.getD (i + 1) 0), rfl, rfl, s.seq hS, at_int (k := i + 1) (by omega) (by omega), ?_⟩
      refine ⟨_, _, rfl, rfl, _, rfl, ?_⟩
      dsimp only at qt
      by_cases c : S.getD i 0 ≥ S.getD (i + 1) 0
      · rw [if_pos c] at qt
        rw [decide_eq_true c]
        exact iteT ⟨_, rfl, qt _ (Same.refl _)⟩
      · rw [if_neg c] at qt
        rw [decide_eq_false c]
        exact iteF (qt _ (Same.refl _))
    · intro H2 s2 hD
      rw [sel_bad] at hD
      refine ⟨Nat.zero_le _, fun p np => ?_⟩
      obtain ⟨H3, e3, s3, hp3⟩ := fresh (.lst (([] : List Int).map V.int)) np
      rw [show upd H2 p (.lst []) = H3 from e3]
      have s13 := s2.trans s3
      have s03 := s1.trans s13
      refine neD_lst (ns := badAt S) (ms := []) (.inl (.inl (s3 _ _ hD))) (.inl (.inl hp3)) ⟨_, rfl, ?_⟩
      by_cases c4 : S.Pairwise (· < ·)
      rotate_left
      · have hq : EE H E T.C_InvalidStarts (.ref a) := by
          rcases h with ⟨_, q⟩ | ⟨⟨_, c, _⟩, _⟩
          · exact q
          · exact absurd c c4
        rw [decide_eq_false (fun z => c4 (badAt_nil.mp z))]
        exact iteT ⟨_, rfl, mk_sup fun dd nd => hq _ dd s03 nd⟩
      rw [decide_eq_true (badAt_nil.mpr c4)]
      refine iteF ?_
      rcases h with ⟨hb, _⟩ | ⟨_, b, hv, q1, q2⟩
      · exfalso
        rcases hb with hb | hb | ⟨n, r, rfl, hb⟩ | hb
        · omega
        · omega
        · exact hb c3
        · exact hb c4
      have hS3 := s13.seq hS
      have hne : S ≠ [] := fun z => by rw [z] at c1; simp at c1
      refine ⟨_, rfl, _, rfl, _, rfl, a, _, -1, _, rfl, rfl, hS3, at_lastI hne, _, _, rfl, rfl, ?_⟩
      refine ⟨tv, lastI S + 1, none, b, rfl, hv.same s03, fun e => ?_, fun e dd nd => q1 e _ dd s03 nd⟩
      obtain ⟨b2, hv2, q3, q4⟩ := q2 e
      refine ⟨_, rfl, _, rfl, a, _, rfl, .inl hS3, ?_⟩
      refine ⟨mv, 1, some (S.length : Int), b2, by rw [List.length_map]; rfl, hv2.same s03, fun e => q4 e _ s03, fun e dd nd => q3 e _ dd s03 nd⟩
end
end My

namespace My
open PySem PySem.Spec PyProof.Rows L2 Pre
/-! ### least rests -/
def oV : Option Int → V
  | some n => .int n
  | none => .non
def restAtI (S : List Int) (t : Int) (k at_ : Nat) : Option Int := bst t (S.getD at_ 0) (S.drop (at_ + 1)) k
def restsRow (S : List Int) (t : Int) (k n : Nat) : List V := (List.range n).map fun j => oV (restAtI S t k j)
theorem restsRow_len (S : List Int) (t : Int) (k n : Nat) : (restsRow S t k n).length = n := by unfold restsRow; rw [List.length_map, List.length_range]
theorem restsRow_at {S : List Int} {t : Int} {k n j : Nat} (h : j < n) : (restsRow S t k n)[j]? = some (oV (restAtI S t k j)) := by
  unfold restsRow
  rw [List.getElem?_map, List.getElem?_range h]
  rfl
theorem restsRow_next (S : List Int) (t : Int) (k n : Nat) : restsRow S t k (n + 1) = restsRow S t k n ++ [oV (restAtI S t k n)] := by
  unfold restsRow
  rw [List.range_succ, List.map_append]
  rfl
def RestsAt (H : Hp) (p : Addr) (S : List Int) (t : Int) (m : Nat) : Prop := ∃ as : List Addr, H p = some (.lst (as.map V.ref)) ∧ as.length = m ∧ ∀ (k : Nat) (a : Addr), as[k]? = some a → H a = some (.lst (restsRow S t k S.length))
theorem at_end {xs : List V} {n : Nat} {v : V} (hl : xs.length = n + 1) (h : xs[n]? = some v) : atI xs (-1) = some v := by
  unfold atI
  unfold ixN
  rw [hl, if_neg (by omega), if_pos (by omega), show (-1 + ((n + 1 : Nat) : Int)).toNat = n by omega]
  exact h
theorem drop_get {S : List Int} {j : Nat} (h : j < S.length) : S.drop j = S.getD j 0 :: S.drop (j + 1) := by
  rw [List.drop_eq_getElem_cons h, List.getD_eq_getElem?_getD, List.getElem?_eq_getElem h]
  rfl
def stepAt (S : List Int) (t c : Int) (k j : Nat) : Option Int := (restAtI S t k j).map (max (S.getD j 0 - c))
theorem steps_sel (S : List Int) (t c : Int) (k : Nat) : ∀ (n j : Nat), n = S.length - j → stepsF t c k (S.drop j) = ((List.range n).map fun i => stepAt S t c k (j + i)).filterMap id
  | 0, j, h => by rw [List.drop_of_length_le (by omega)]; rfl
  | n + 1, j, h => by
    have ih := steps_sel S t c k n (j + 1) (by omega)
    rw [drop_get (by omega), List.range_succ_eq_map, List.map_cons, List.map_map]
    have e : ((fun i => stepAt S t c k (j + i)) ∘ Nat.succ) = fun i => stepAt S t c k (j + 1 + i) := funext fun i => by
      show stepAt S t c k (j + (i + 1)) = _
      rw [show j + (i + 1) = j + 1 + i by omega]
    rw [e, List.filterMap_cons]
    show (match bst t (S.getD j 0) (S.drop (j + 1)) k with | some v => [max (S.getD j 0 - c) v] | none => []) ++ stepsF t c k (S.drop (j + 1)) = _
    rw [ih]
    have e2 : id (stepAt S t c k (j + 0)) = (bst t (S.getD j 0) (S.drop (j + 1)) k).map (max (S.getD j 0 - c)) := rfl
    rw [e2]
    cases bst t (S.getD j 0) (S.drop (j + 1)) k <;> rfl
theorem sel_ints (g : Nat → Option Int) : ∀ l : List Nat, (l.map fun i => (g i).map V.int).filterMap id = ((l.map g).filterMap id).map V.int
  | [] => rfl
  | x :: l => by
    rw [List.map_cons, List.map_cons, List.filterMap_cons, List.filterMap_cons, sel_ints g l]
    cases g x <;> rfl
theorem rest_next (S : List Int) (t : Int) (k j : Nat) : IsMin (restAtI S t (k + 1) j) (stepsF t (S.getD j 0) k (S.drop (j + 1))) := steps_min t (S.getD j 0) k (S.drop (j + 1))
/-- starts, ascending, all below a total -/
def Asc (S : List Int) (t : Int) : Prop := S.Pairwise (· < ·) ∧ ∀ x ∈ S, x < t
theorem Asc.at {S : List Int} {t : Int} (h : Asc S t) {j : Nat} (hj : j < S.length) : asc (S.getD j 0) (S.drop (j + 1)) t := by
  unfold asc
  rw [← drop_get hj]
  exact ⟨h.1.sublist (List.drop_sublist _ _), fun x hx => h.2 x (List.mem_of_mem_drop hx)⟩
local macro_rules | `(tactic| walk_at "go") => `(tactic| repeat (first | (with_reducible first | refine iteT ?_ | refine iteF ?_ | refine iteNtt ?_ | refine iteNff ?_ | refine iteET (by omega) ?_ | refine iteEF (by omega) ?_ | refine iteENT (by omega) ?_ | refine iteENF (by omega) ?_ | refine iteDT (by omega) ?_ | refine iteDF (by omega) ?_ | refine iteNT (by omega) ?_ | refine iteNF (by omega) ?_) | refine ⟨_, rfl, ?_⟩ | refine ⟨_, _, rfl, rfl, ?_⟩ | refine ⟨_, _, rfl, ?_⟩ | refine ⟨rfl, ?_⟩ | refine .inl ⟨_, rfl, ?_⟩ | refine .inr ⟨_, rfl, ?_⟩))
local macro_rules | `(tactic| walk_at "b") => `(tactic| try dsimp (config := { proj := false, iota := false, eta := false, zeta := false }) only)
section
variable {P : Program} {w : World} {K : PySem.W.Frag} {mg : Str → Option Value} {base : Heap} [pf : Sup.PF P fileS]
def sp_least_rests (K : PySem.W.Frag) : Sp := fun vs H Q _ => ∃ (a : Addr) (S : List Int) (t : Int) (m : Nat), vs = [.ref a, .int t, .int m] ∧ SqL K H a (S.map V.int) ∧ Asc S t ∧ S.length ≤ 60 ∧ 1 ≤ m ∧ m ≤ 60 ∧ ∀ H' p, Same H H' → H p = none → RestsAt H' p S t m → Q (.ref p) H'
theorem G_least_rests (T : Top K mg) : FnOk P w K mg base CX0 1 T.f_least_rests T.fd_least_rests ["starts", "total", "many"] (sp_least_rests K) := by
  refine T.F_least_rests.ok sc_least_rests (fun vs H Q E h => by obtain ⟨a, S, t, m, rfl, _⟩ := h; rfl) (fun cdv A outer s H vs Q E hr h => ?_)
  obtain ⟨a, S, t, m, rfl, hS, hA, hl, hm1, hm, q⟩ := h
  refine ⟨_, PSs.nox (pss_cons (ps_set (i := 3) sc_least_rests.nd rfl (by first | exact Or.inl rfl | exact Or.inr rfl) (pe_lst (pa_cons (pe_lc (own := [("start", 8)]) (g := gName 8) (tt := tYes) (by rfl) sc_least_rests.nd (k_piL K rfl (pv 0)) (blkOk_by (own := [("start", 8)]) (N := N_least_rests) (sc := defScope s_least_rests) (by decide +kernel)) (fun _ _ _ _ _ => (pg_name (i := 8) sc_least_rests.nd rfl (by first | exact Or.inl rfl | exact Or.inr rfl))) (fun _ _ _ _ _ => pts_nil) (fun _ _ _ _ _ => (pe_op op_sub (pv 1) (pv 8)))) pa_nil)))
  (pss_cons (ps_for PassesOwn.never rfl (pi_range2 (by rfl) T.n_range (pa_cons pe_int (pa_cons (pv 2) pa_nil))) (pg_name (i := 4) sc_least_rests.nd rfl (by first | exact Or.inl rfl | exact Or.inr rfl))
    (pss_cons (ps_asg (pe_tup (pa_cons (pe_ix (k_ixL K rfl) (pv 3) (pe_un un_neg pe_int) (fun _ _ => rfl)) (pa_cons (pe_lst pa_nil) pa_nil))) (k_pgT K rfl (by rfl) (pgs_cons (pg_name (i := 5) sc_least_rests.nd rfl (by first | exact Or.inl rfl | exact Or.inr rfl)) (pgs_cons (pg_name (i := 6) sc_least_rests.nd rfl (by first | exact Or.inl rfl | exact Or.inr rfl)) pgs_nil))))
  (pss_cons (ps_for PassesOwn.never rfl (k_piE K rfl (by rfl) T.n_enumerate (pa_cons (pv 0) pa_nil)) (k_pgT K rfl (by rfl) (pgs_cons (pg_name (i := 7) sc_least_rests.nd rfl (by first | exact Or.inl rfl | exact Or.inr rfl)) (pgs_cons (pg_name (i := 8) sc_least_rests.nd rfl (by first | exact Or.inl rfl | exact Or.inr rfl)) pgs_nil)))
    (pss_cons (ps_setLc (i := 9) (own := [("spot", 10)]) (g := gName 10) (by rfl) sc_least_rests.nd rfl rfl (sw_true rfl rfl rfl (by decide +kernel)) (pi_range2 (by rfl) T.n_range (pa_cons (pe_op op_add (pv 7) pe_int) (pa_cons (pe_callB (k_len K rfl) (by rfl) T.n_len (by decide +kernel) (pa_cons (pv 0) pa_nil)) pa_nil))) (blkOk_by (own := [("spot", 10)]) (N := N_least_rests) (sc := defScope s_least_rests) (by decide +kernel)) (fun _ _ _ _ _ => (pg_name (i := 10) sc_least_rests.nd rfl (by first | exact Or.inl rfl | exact Or.inr rfl))) (fun _ _ _ _ _ => (pts_one (k_truth K rfl (pe_ix (k_ixL K rfl) (pv 5) (pv 10) (fun _ _ => rfl)) (by intro _; rfl)))) (fun _ _ _ _ _ => (pe_callB (call_max2 rfl) (by rfl) T.n_max (by decide +kernel) (pa_cons (pe_op op_sub (pe_ix (k_ixL K rfl) (pv 0) (pv 10) (fun _ _ => rfl)) (pv 8)) (pa_cons (pe_ix (k_ixL K rfl) (pv 5) (pv 10) (fun _ _ => rfl)) pa_nil)))))
  (pss_one (ps_expr (pe_bm PySem.F.plainAttrs_list PySem.F.slot_list_append PySem.F.type_list_append mt_append (pv 6) (pa_cons (pe_ifExp (pt_cmpR (k_neD K rfl hr.units) (pv 9) (pe_lst pa_nil) (nomark _)) (pe_callB (k_min K rfl rfl) (by rfl) T.n_min (by decide +kernel) (pa_cons (pv 9) pa_nil)) pe_non) pa_nil))))))
  (pss_one (ps_expr (pe_bm PySem.F.plainAttrs_list PySem.F.slot_list_append PySem.F.type_list_append mt_append (pv 3) (pa_cons (pv 6) pa_nil)))))))
  (pss_one (ps_ret (pv 3))))), ?_⟩
  refine ⟨_, rfl, a, rfl, ⟨_, hS⟩, fun D nD => ?_⟩
  refine lc_mapL (K := K) (xs := S.map V.int) (restsRow S t 0 S.length) nD hS (by rw [List.length_map, restsRow_len]) (by rw [List.length_map]; exact small4 (by omega)) (fun x => rfl) ?_ ?_
  · intro j x y H' hx hy s Qt qt
    obtain ⟨n, hn, rfl⟩ := int_at hx
    have hj : j < S.length := (List.getElem?_eq_some_iff.mp hn).1
    rw [restsRow_at hj] at hy
    cases hy
    have en : S.getD j 0 = n := by rw [List.getD_eq_getElem?_getD, hn]; rfl
    refine ⟨_, rfl, _, rfl, _, _, rfl, rfl, ?_⟩
    unfold restAtI at qt
    rw [bst_zero, en] at qt
    exact qt _ (Same.refl _)
  intro H1 s1 hD
  refine ⟨(show 1 ≤ sizeLine by decide), fun p np => ?_⟩
  obtain ⟨H2, e2, s2, hp2⟩ := fresh (.lst [V.ref D]) np
  rw [e2]
  have nHp : H p = none := s1.free np
  refine ⟨_, rfl, _, _, rfl, ⟨by decide, by decide, by omega, by omega⟩, ?_⟩
  rw [show ((m : Int) - 1).toNat = m - 1 by omega]
  refine for_range (lo := 1) (n := m - 1) (fun k σ H3 => ∃ v4 v5 v6 v7 v8 v9 v10, σ = [some (.ref a), some (.int t), some (.int m), some (.ref p), v4, v5, v6, v7, v8, v9, v10] ∧ Same H H3 ∧ RestsAt H3 p S t (k + 1))
    ⟨none, none, none, none, none, none, none, rfl, s1.trans s2, [D], hp2, rfl, fun k a' e => ?_⟩ ?_ ?_
  · have hk : k = 0 := by
      have := (List.getElem?_eq_some_iff.mp e).1
      rw [List.length_singleton] at this
      omega
    subst hk
    cases e
    exact s2 _ _ hD
  · rintro k σ H3 hk ⟨v4, v5, v6, v7, v8, v9, v10, rfl, s3, as, ha, hal, hat⟩
    have hlt : k < as.length := by omega
    have hrow := hat k as[k] (List.getElem?_eq_getElem hlt)
    refine ⟨_, rfl, _, rfl, p, _, -1, .ref as[k], rfl, rfl, .inl (.inl ha), at_end (n := k) (by rw [List.length_map, hal]) (by rw [List.getElem?_map, List.getElem?_eq_getElem hlt]; rfl), Nat.zero_le _, fun ph nph => ?_⟩
    obtain ⟨H4, e4, s4, hph⟩ := fresh (.lst []) nph
    rw [e4]
    refine ⟨(show 2 ≤ sizeLine by decide), fun pt npt => ?_⟩
    obtain ⟨H5, e5, s5, hpt⟩ := fresh (.tup [V.ref as[k], V.ref ph]) npt
    rw [e5]
    refine ⟨pt, _, rfl, .inl (.inl hpt), rfl, _, _, rfl, _, _, rfl, rfl, ?_⟩
    have s35 := s4.trans s5
    refine ⟨_, rfl, a, _, rfl, (s3.trans s35).seq hS, ?_⟩
    refine for_it (walk_enum (K := K) (a := a) (xs := S.map V.int)) (fun j σ H6 => ∃ v7 v8 v9 v10, σ = [some (.ref a), some (.int t), some (.int m), some (.ref p), some (.int (1 + (k : Int))), some (.ref as[k]), some (.ref ph), v7, v8, v9, v10] ∧ Same H3 H6 ∧ H6 ph = some (.lst (restsRow S t (k + 1) j)))
      ⟨_, _, _, _, rfl, s35, s5 _ _ hph⟩ (fun j σ H6 _ ⟨_, _, _, _, _, s, _⟩ => (s3.trans s).seq hS) ?_ ?_
    · rintro j x σ H6 H7 hj ⟨v7, v8, v9, v10, rfl, s6, hph6⟩ ⟨t2, y, z, rfl, nt2, rfl, ey, ez⟩
      cases ey
      obtain ⟨n, hn, rfl⟩ := int_at ez
      rw [List.length_map] at hj
      have en : S.getD j 0 = n := by rw [List.getD_eq_getElem?_getD, hn]; rfl
      have s7 : Same H6 (upd H6 t2 (.tup [.int (j : Nat), .int n])) := same_upd nt2
      refine ⟨t2, _, rfl, .inl (.inl upd_same), rfl, _, _, rfl, _, _, rfl, rfl, ?_⟩
      generalize upd H6 t2 (.tup [.int (j : Nat), .int n]) = H7 at s7
      have s37 := s6.trans s7
      have hS7 := (s3.trans s37).seq hS
      have hml : (S.map V.int).length = S.length := List.length_map _
      refine ⟨_, rfl, _, _, rfl, rfl, _, rfl, a, _, rfl, .inl hS7, _, _, rfl, ⟨by omega, by omega, by omega, by omega⟩, fun D nD => ?_⟩
      rw [show (((S.map V.int).length : Int) - ((j : Int) + 1)).toNat = S.length - (j + 1) by omega]
      refine lc_selR (lo := (j : Int) + 1) (n := S.length - (j + 1)) ((List.range (S.length - (j + 1))).map fun i => (stepAt S t n k (j + 1 + i)).map V.int) nD (by rw [List.length_map, List.length_range]) (small4 (by omega)) (fun x => rfl) ?_ ?_
      · intro i o H' hi ho s Qt qt
        rw [List.getElem?_map, List.getElem?_range hi] at ho
        cases ho
        have hr' := (s37.trans s) _ _ hrow
        have hix : (j : Int) + 1 + (i : Int) = ((j + 1 + i : Nat) : Int) := by omega
        have hpos : asc (S.getD (j + 1 + i) 0) (S.drop (j + 1 + i + 1)) t := hA.at (by omega)
        have e : stepAt S t n k (j + 1 + i) = (restAtI S t k (j + 1 + i)).map (max (S.getD (j + 1 + i) 0 - n)) := rfl
        dsimp only at qt
        rw [e] at qt
        refine ⟨_, rfl, _, rfl, as[k], _, _, oV (restAtI S t k (j + 1 + i)), rfl, rfl, .inl (.inl hr'), at_of hix (restsRow_at (by omega)), ?_⟩
        cases hb : restAtI S t k (j + 1 + i) with
        | none =>
          rw [hb] at qt
          exact ⟨false, rfl, qt _ (Same.refl _)⟩
        | some v =>
          rw [hb] at qt
          have hv : 0 < v := bst_pos hpos hb
          refine ⟨true, (by show true = (v != 0); rw [eq_comm, bne_iff_ne]; omega), ?_⟩
          refine ⟨_, rfl, _, rfl, a, _, _, .int (S.getD (j + 1 + i) 0), rfl, rfl, s.seq hS7, at_int hix (by omega), ?_⟩
          refine ⟨_, rfl, _, _, rfl, rfl, _, rfl, _, rfl, as[k], _, _, oV (restAtI S t k (j + 1 + i)), rfl, rfl, .inl (.inl hr'), at_of hix (restsRow_at (by omega)), ?_⟩
          rw [hb]
          refine ⟨_, _, rfl, ?_⟩
          rw [show (if v > S.getD (j + 1 + i) 0 - n then v else S.getD (j + 1 + i) 0 - n) = max (S.getD (j + 1 + i) 0 - n) v by omega]
          exact qt _ (Same.refl _)
      · intro H8 s8 hD
        rw [sel_ints, ← steps_sel S t n k _ (j + 1) rfl] at hD
        have hmn := rest_next S t k j
        rw [en] at hmn
        have hgrow := restsRow_next S t (k + 1) j
        have hph8 := s8 _ _ (s7 _ _ hph6)
        have s38 := s37.trans s8
        refine ⟨_, rfl, .inl ⟨rfl, _, .inl (.inl hph8)⟩, ?_⟩
        refine ⟨_, rfl, Nat.zero_le _, fun pe npe => ?_⟩
        obtain ⟨H9, e9, s9, hpe⟩ := fresh (.lst (([] : List Int).map V.int)) npe
        rw [show upd H8 pe (.lst []) = H9 from e9]
        have hph9 := s9 _ _ hph8
        refine neD_lst (ns := stepsF t n k (S.drop (j + 1))) (ms := []) (.inl (.inl (s9 _ _ hD))) (.inl (.inl hpe)) ⟨_, rfl, ?_⟩
        have fin : ∀ v, v = oV (restAtI S t (k + 1) j) → Same H3 (upd H9 ph (.lst (restsRow S t (k + 1) j ++ [v]))) ∧ (upd H9 ph (.lst (restsRow S t (k + 1) j ++ [v]))) ph = some (.lst (restsRow S t (k + 1) (j + 1))) := fun v hv => by
          refine ⟨same_over nph (s38.trans s9), ?_⟩
          rw [upd_same, hgrow, hv]
        rcases hmn with ⟨h1, h2⟩ | ⟨v, h1, h2, h3⟩
        · rw [h2, decide_eq_true rfl]
          refine iteF ⟨ph, _, _, rfl, rfl, hph9, by rw [restsRow_len]; exact small4 (by omega), ?_⟩
          exact ⟨_, _, _, _, rfl, fin .non (by rw [h1]; rfl)⟩
        · rw [decide_eq_false (fun z => by rw [z] at h2; cases h2)]
          refine iteT ⟨_, rfl, D, _, rfl, .inl (.inl (s9 _ _ hD)), List.length_pos_iff.mpr (fun z => by rw [z] at h2; cases h2), fun u hu hmin => ?_⟩
          have huv : u = v := Int.le_antisymm (hmin v h2) (h3 u hu)
          refine ⟨ph, _, _, rfl, rfl, hph9, by rw [restsRow_len]; exact small4 (by omega), ?_⟩
          exact ⟨_, _, _, _, rfl, fin (.int u) (by rw [h1, huv]; rfl)⟩
    · rintro σ H6 ⟨v7, v8, v9, v10, rfl, s6, hph6⟩
      rw [List.length_map] at hph6
      have hp6 := s6 _ _ ha
      have nphp : ph ≠ p := (ne_of_none ha nph).symm
      refine ⟨_, rfl, .inl ⟨rfl, _, .inl (.inl hp6)⟩, _, rfl, p, _, _, rfl, rfl, hp6, by rw [List.length_map]; exact small4 (by omega), ?_⟩
      refine ⟨_, _, _, _, _, _, _, rfl, same_over nHp (s3.trans s6), as ++ [ph], by rw [upd_same, List.map_append]; rfl, by rw [List.length_append, hal]; rfl, fun i a' e => ?_⟩
      by_cases c : i < as.length
      · rw [List.getElem?_append_left c] at e
        have h1 := hat i a' e
        have hne : a' ≠ p := fun z => by
          rw [z, ha] at h1
          have h2 := congrArg (fun o : Option HO => match o with | some (.lst l) => l[0]? | _ => none) h1
          have h3 : (as.map V.ref)[0]? = (restsRow S t i S.length)[0]? := h2
          rw [List.getElem?_map, List.getElem?_eq_getElem (by omega)] at h3
          by_cases c0 : 0 < S.length
          · rw [restsRow_at c0] at h3
            cases hb : restAtI S t i 0 with
            | none => rw [hb] at h3; cases h3
            | some v => rw [hb] at h3; cases h3
          · rw [List.getElem?_eq_none (by rw [restsRow_len]; omega)] at h3
            cases h3
        rw [upd_ne hne]
        exact s6 _ _ h1
      · rw [List.getElem?_append_right (by omega)] at e
        have hi : i - as.length = 0 := by
          have := (List.getElem?_eq_some_iff.mp e).1
          rw [List.length_singleton] at this
          omega
        rw [hi] at e
        cases e
        have : i = k + 1 := by omega
        subst this
        rw [upd_ne nphp]
        exact hph6
  · rintro σ H3 ⟨v4, v5, v6, v7, v8, v9, v10, rfl, s3, hR⟩
    rw [show m - 1 + 1 = m by omega] at hR
    exact ⟨_, rfl, q _ p s3 nHp hR⟩
end
end My

namespace My
open PySem PySem.Spec PyProof.Rows L2 Pre
/-! ### the least step, how many tables have it -/
theorem last_max {S : List Int} (h : S.Pairwise (· < ·)) : ∀ x ∈ S, x ≤ lastI S := fun x hx => by
  obtain ⟨i, hi, e⟩ := List.mem_iff_getElem.mp hx
  unfold lastI
  rw [List.getD_eq_getElem?_getD, List.getElem?_eq_getElem (show S.length - 1 < S.length by omega)]
  show x ≤ S[S.length - 1]
  rcases Nat.lt_or_ge i (S.length - 1) with c | c
  · have := List.pairwise_iff_getElem.mp h i (S.length - 1) hi (by omega) c
    omega
  · have ei : i = S.length - 1 := by omega
    subst ei
    omega
theorem GoodI.asc {S : List Int} {t : Int} (h : GoodI S) (ht : lastI S < t) : Asc S t := ⟨h.2.1, fun x hx => by have := last_max h.2.1 x hx; omega⟩
theorem GoodI.at0 {S : List Int} (h : GoodI S) : S.getD 0 0 = 0 ∧ 0 < S.length := by
  obtain ⟨_, _, r, rfl⟩ := h
  exact ⟨rfl, by simp⟩
def cntRow (S : List Int) (t step : Int) (k n : Nat) : List Int := (List.range n).map fun j => ((cntG t step (S.getD j 0) (S.drop (j + 1)) k : Nat) : Int)
theorem cntRow_len (S : List Int) (t step : Int) (k n : Nat) : (cntRow S t step k n).length = n := by unfold cntRow; rw [List.length_map, List.length_range]
theorem cntRow_at {S : List Int} {t step : Int} {k n j : Nat} (h : j < n) : ((cntRow S t step k n).map V.int)[j]? = some (.int ((cntG t step (S.getD j 0) (S.drop (j + 1)) k : Nat) : Int)) := by
  unfold cntRow
  rw [List.getElem?_map, List.getElem?_map, List.getElem?_range h]
  rfl
theorem cntRow_next (S : List Int) (t step : Int) (k n : Nat) : cntRow S t step k (n + 1) = cntRow S t step k n ++ [((cntG t step (S.getD n 0) (S.drop (n + 1)) k : Nat) : Int)] := by
  unfold cntRow
  rw [List.range_succ, List.map_append]
  rfl
def CountsAt (H : Hp) (p : Addr) (S : List Int) (t step : Int) (m : Nat) : Prop := ∃ as : List Addr, H p = some (.lst (as.map V.ref)) ∧ as.length = m ∧ ∀ (k : Nat) (a : Addr), as[k]? = some a → H a = some (.lst ((cntRow S t step k S.length).map V.int))
/-- the places that are near enough -/
def nearF (S : List Int) (step c : Int) (j n : Nat) : List Nat := ((List.range n).filter fun i => decide (S.getD (j + i) 0 - c ≤ step)).map (j + ·)
theorem near_sum (S : List Int) (t step c : Int) (k : Nat) : ∀ (n j : Nat), n = S.length - j → ((nearF S step c j n).map fun i => cntG t step (S.getD i 0) (S.drop (i + 1)) k).sum = cntG t step c (S.drop j) (k + 1)
  | 0, j, h => by
    rw [List.drop_of_length_le (by omega)]
    rfl
  | n + 1, j, h => by
    have ih := near_sum S t step c k n (j + 1) (by omega)
    rw [drop_get (by omega), cnt_cons, ← ih]
    have e : nearF S step c j (n + 1) = (if S.getD j 0 - c ≤ step then [j] else []) ++ nearF S step c (j + 1) n := by
      unfold nearF
      rw [List.range_succ_eq_map, List.filter_cons, List.filter_map]
      have e1 : ((fun i => decide (S.getD (j + i) 0 - c ≤ step)) ∘ Nat.succ) = fun i => decide (S.getD (j + 1 + i) 0 - c ≤ step) := funext fun i => by
        show decide (S.getD (j + (i + 1)) 0 - c ≤ step) = _
        rw [show j + (i + 1) = j + 1 + i by omega]
      have e2 : ((j + ·) ∘ Nat.succ) = fun i => j + 1 + i := funext fun i => by
        show j + (i + 1) = _
        omega
      rw [e1, Nat.add_zero]
      by_cases c0 : S.getD j 0 - c ≤ step
      · rw [if_pos (decide_eq_true c0), if_pos c0, List.map_cons, List.map_map, e2]
        rfl
      · rw [if_neg (by simpa using c0), if_neg c0, List.map_map, e2]
        rfl
    rw [e, List.map_append, List.sum_append]
    by_cases c0 : S.getD j 0 - c ≤ step
    · rw [if_pos c0, if_pos c0, List.map_singleton, List.sum_singleton]
    · rw [if_neg c0, if_neg c0]
      rfl
theorem near_mem {S : List Int} {step c : Int} {j n i : Nat} (h : i ∈ nearF S step c j n) : i < j + n := by
  unfold nearF at h
  obtain ⟨x, hx, rfl⟩ := List.mem_map.mp h
  have := List.mem_range.mp (List.mem_filter.mp hx).1
  omega
theorem near_len (S : List Int) (step c : Int) (j n : Nat) : (nearF S step c j n).length ≤ n := by
  unfold nearF
  rw [List.length_map]
  exact Nat.le_trans (List.length_filter_le _ _) (by rw [List.length_range]; exact Nat.le_refl _)
def intsN (fs : List Nat) : List Int := fs.map fun (f : Nat) => (f : Int)
theorem sel_near (S : List Int) (step c : Int) (j : Nat) : ∀ l : List Nat, (l.map fun i => if S.getD (j + i) 0 - c ≤ step then some (V.int ((j : Int) + (i : Int))) else none).filterMap id = (intsN ((l.filter fun i => decide (S.getD (j + i) 0 - c ≤ step)).map (j + ·))).map V.int
  | [] => rfl
  | x :: l => by
    rw [List.map_cons, List.filterMap_cons, List.filter_cons, sel_near S step c j l]
    by_cases c0 : S.getD (j + x) 0 - c ≤ step
    · rw [if_pos c0, if_pos (decide_eq_true c0)]
      rfl
    · rw [if_neg c0, if_neg (by simpa using c0)]
      rfl
theorem sum_cast : ∀ l : List Nat, (intsN l).sum = ((l.sum : Nat) : Int)
  | [] => rfl
  | x :: l => by
    show (x : Int) + (intsN l).sum = _
    rw [sum_cast l, List.sum_cons]
    omega
local macro_rules | `(tactic| walk_at "go") => `(tactic| repeat (first | (with_reducible first | refine iteT ?_ | refine iteF ?_ | refine iteNtt ?_ | refine iteNff ?_ | refine iteET (by omega) ?_ | refine iteEF (by omega) ?_ | refine iteENT (by omega) ?_ | refine iteENF (by omega) ?_ | refine iteDT (by omega) ?_ | refine iteDF (by omega) ?_ | refine iteNT (by omega) ?_ | refine iteNF (by omega) ?_) | refine ⟨_, rfl, ?_⟩ | refine ⟨_, _, rfl, rfl, ?_⟩ | refine ⟨_, _, rfl, ?_⟩ | refine ⟨rfl, ?_⟩ | refine .inl ⟨_, rfl, ?_⟩ | refine .inr ⟨_, rfl, ?_⟩))
local macro_rules | `(tactic| walk_at "b") => `(tactic| try dsimp (config := { proj := false, iota := false, eta := false, zeta := false }) only)
section
variable {P : Program} {w : World} {K : PySem.W.Frag} {mg : Str → Option Value} {base : Heap} [pf : Sup.PF P fileS]
def sp_least_step (K : PySem.W.Frag) (CS CN : Addr) : Sp := fun vs H Q E => ∃ v tv mv : V, vs = [v, tv, mv] ∧ StartsV K H E CS CN v tv mv fun _ S => ∃ (t : Int) (m : Nat), tv = .int t ∧ mv = .int m ∧ lastI S < t ∧ 1 ≤ m ∧ m ≤ S.length ∧ ∀ H' L, Same H H' → bst t 0 (S.drop 1) (m - 1) = some L → Q (.int L) H'
theorem G_least_step (T : Top K mg) : FnOk P w K mg base (L2.CX P w) 5 T.f_least_step T.fd_least_step ["starts", "total", "many"] (sp_least_step K T.C_InvalidStarts T.C_InvalidNumber) := by
  refine T.F_least_step.ok (CX := L2.CX P w) sc_least_step (fun vs H Q E h => by obtain ⟨v, tv, mv, rfl, _⟩ := h; rfl) (fun cdv A outer s H vs Q E hr h => ?_)
  obtain ⟨v, tv, mv, rfl, h⟩ := h
  refine ⟨_, (pss_cons (ps_expr (pe_call (G_check_starts (P := P) T) (hr.mono (by decide)) (by rfl) T.g_check_starts T.F_check_starts.kp T.b_check_starts .nil (passes_call (takes_of rfl rfl rfl rfl) (fun _ _ _ _ h => h)) (pa_cons (pv 0) (pa_cons (pv 1) (pa_cons (pv 2) pa_nil)))))
  (pss_one (ps_ret (pe_ix (k_ixL K rfl) (pe_ix (k_ixL K rfl) (pe_call (G_least_rests (P := P) T) (hr.mono (by decide)) (by rfl) T.g_least_rests T.F_least_rests.kp T.b_least_rests .nil pass0 (pa_cons (pv 0) (pa_cons (pv 1) (pa_cons (pv 2) pa_nil)))) (pe_un un_neg pe_int) (fun _ _ => rfl)) pe_int (fun _ _ => rfl))))), ?_⟩
  refine ⟨_, rfl, _, rfl, _, rfl, v, tv, mv, rfl, h.mono fun a S ev ha hg hq H1 s1 => ?_⟩
  obtain ⟨t, m, rfl, rfl, ht, hm1, hm2, q⟩ := hq
  subst ev
  have hS : SqL K H1 a (S.map V.int) := .inl (.inl (s1 _ _ ha))
  have hl := hg.1
  obtain ⟨z0, z1⟩ := hg.at0
  refine ⟨_, rfl, _, rfl, _, rfl, a, S, t, m, rfl, hS, hg.asc ht, hl, hm1, by omega, fun H2 p s2 np hR => ?_⟩
  obtain ⟨as, hp, hal, hat⟩ := hR
  have hlt : m - 1 < as.length := by omega
  have hrow := hat (m - 1) as[m - 1] (List.getElem?_eq_getElem hlt)
  obtain ⟨L, hL⟩ := bst_some t 0 (r := S.drop 1) (k := m - 1) (by rw [List.length_drop]; omega)
  have hr0 : restAtI S t (m - 1) 0 = some L := by unfold restAtI; rw [z0]; exact hL
  refine ⟨_, rfl, p, _, -1, .ref as[m - 1], rfl, rfl, .inl (.inl hp), at_end (n := m - 1) (by rw [List.length_map]; omega) (by rw [List.getElem?_map, List.getElem?_eq_getElem hlt]; rfl), ?_⟩
  refine ⟨as[m - 1], _, 0, _, rfl, rfl, .inl (.inl hrow), at_of (j := 0) rfl (restsRow_at z1), ?_⟩
  rw [hr0]
  exact q _ L (s1.trans s2) hL
def sp_table_counts (K : PySem.W.Frag) : Sp := fun vs H Q _ => ∃ (a : Addr) (S : List Int) (t : Int) (m : Nat) (step : Int), vs = [.ref a, .int t, .int m, .int step] ∧ SqL K H a (S.map V.int) ∧ 0 < S.length ∧ S.length ≤ 60 ∧ 1 ≤ m ∧ m ≤ 60 ∧ ∀ H' p, Same H H' → H p = none → CountsAt H' p S t step m → Q (.ref p) H'
theorem G_table_counts (T : Top K mg) : FnOk P w K mg base CX0 1 T.f_table_counts T.fd_table_counts ["starts", "total", "many", "step"] (sp_table_counts K) := by
  refine T.F_table_counts.ok sc_table_counts (fun vs H Q E h => by obtain ⟨a, S, t, m, step, rfl, _⟩ := h; rfl) (fun cdv A outer s H vs Q E hr h => ?_)
  obtain ⟨a, S, t, m, step, rfl, hS, hl0, hl, hm1, hm, q⟩ := h
  refine ⟨_, PSs.nox (pss_cons (ps_set (i := 4) sc_table_counts.nd rfl (by first | exact Or.inl rfl | exact Or.inr rfl) (pe_lst (pa_cons (pe_lc (own := [("start", 9)]) (g := gName 9) (tt := tYes) (by rfl) sc_table_counts.nd (k_piL K rfl (pv 0)) (blkOk_by (own := [("start", 9)]) (N := N_table_counts) (sc := defScope s_table_counts) (by decide +kernel)) (fun _ _ _ _ _ => (pg_name (i := 9) sc_table_counts.nd rfl (by first | exact Or.inl rfl | exact Or.inr rfl))) (fun _ _ _ _ _ => pts_nil) (fun _ _ _ _ _ => (pe_callTy call_int1 (by rfl) T.n_int (by decide +kernel) (pa_cons (pe_cmpR op_le (pe_op op_sub (pv 1) (pv 9)) (pv 3) (nomark _)) pa_nil)))) pa_nil)))
  (pss_cons (ps_for PassesOwn.never rfl (pi_range2 (by rfl) T.n_range (pa_cons pe_int (pa_cons (pv 2) pa_nil))) (pg_name (i := 5) sc_table_counts.nd rfl (by first | exact Or.inl rfl | exact Or.inr rfl))
    (pss_cons (ps_asg (pe_tup (pa_cons (pe_ix (k_ixL K rfl) (pv 4) (pe_un un_neg pe_int) (fun _ _ => rfl)) (pa_cons (pe_lst pa_nil) pa_nil))) (k_pgT K rfl (by rfl) (pgs_cons (pg_name (i := 6) sc_table_counts.nd rfl (by first | exact Or.inl rfl | exact Or.inr rfl)) (pgs_cons (pg_name (i := 7) sc_table_counts.nd rfl (by first | exact Or.inl rfl | exact Or.inr rfl)) pgs_nil))))
  (pss_cons (ps_for PassesOwn.never rfl (k_piE K rfl (by rfl) T.n_enumerate (pa_cons (pv 0) pa_nil)) (k_pgT K rfl (by rfl) (pgs_cons (pg_name (i := 8) sc_table_counts.nd rfl (by first | exact Or.inl rfl | exact Or.inr rfl)) (pgs_cons (pg_name (i := 9) sc_table_counts.nd rfl (by first | exact Or.inl rfl | exact Or.inr rfl)) pgs_nil)))
    (pss_cons (ps_setLc (i := 10) (own := [("spot", 11)]) (g := gName 11) (by rfl) sc_table_counts.nd rfl rfl (sw_true rfl rfl rfl (by decide +kernel)) (pi_range2 (by rfl) T.n_range (pa_cons (pe_op op_add (pv 8) pe_int) (pa_cons (pe_callB (k_len K rfl) (by rfl) T.n_len (by decide +kernel) (pa_cons (pv 0) pa_nil)) pa_nil))) (blkOk_by (own := [("spot", 11)]) (N := N_table_counts) (sc := defScope s_table_counts) (by decide +kernel)) (fun _ _ _ _ _ => (pg_name (i := 11) sc_table_counts.nd rfl (by first | exact Or.inl rfl | exact Or.inr rfl))) (fun _ _ _ _ _ => (pts_one (pt_cmpR op_le (pe_op op_sub (pe_ix (k_ixL K rfl) (pv 0) (pv 11) (fun _ _ => rfl)) (pv 9)) (pv 3) (nomark _)))) (fun _ _ _ _ _ => (pv 11)))
  (pss_one (ps_expr (pe_bm PySem.F.plainAttrs_list PySem.F.slot_list_append PySem.F.type_list_append mt_append (pv 7) (pa_cons (pe_callB (k_sum K rfl rfl) (by rfl) T.n_sum (by decide +kernel) (pa_cons (pe_lc (own := [("spot", 11)]) (g := gName 11) (tt := tYes) (by rfl) sc_table_counts.nd (k_piL K rfl (pv 10)) (blkOk_by (own := [("spot", 11)]) (N := N_table_counts) (sc := defScope s_table_counts) (by decide +kernel)) (fun _ _ _ _ _ => (pg_name (i := 11) sc_table_counts.nd rfl (by first | exact Or.inl rfl | exact Or.inr rfl))) (fun _ _ _ _ _ => pts_nil) (fun _ _ _ _ _ => (pe_ix (k_ixL K rfl) (pv 6) (pv 11) (fun _ _ => rfl)))) pa_nil)) pa_nil))))))
  (pss_one (ps_expr (pe_bm PySem.F.plainAttrs_list PySem.F.slot_list_append PySem.F.type_list_append mt_append (pv 4) (pa_cons (pv 7) pa_nil)))))))
  (pss_one (ps_ret (pv 4))))), ?_⟩
  refine ⟨_, rfl, a, rfl, ⟨_, hS⟩, fun D nD => ?_⟩
  refine lc_mapL (K := K) (xs := S.map V.int) ((cntRow S t step 0 S.length).map V.int) nD hS (by rw [List.length_map, List.length_map, cntRow_len]) (by rw [List.length_map]; exact small4 (by omega)) (fun x => rfl) ?_ ?_
  · intro j x y H' hx hy s Qt qt
    obtain ⟨n, hn, rfl⟩ := int_at hx
    have hj : j < S.length := (List.getElem?_eq_some_iff.mp hn).1
    rw [cntRow_at hj] at hy
    cases hy
    have en : S.getD j 0 = n := by rw [List.getD_eq_getElem?_getD, hn]; rfl
    have hc : cntG t step n (S.drop (j + 1)) 0 = if t - n ≤ step then 1 else 0 := by
      unfold cntG
      rw [goods_zero]
      split <;> rfl
    rw [en, hc] at qt
    refine ⟨_, rfl, _, rfl, _, _, rfl, rfl, _, rfl, _, _, rfl, rfl, .inr ⟨_, rfl, ?_⟩⟩
    by_cases c : t - n ≤ step
    · rw [if_pos c] at qt
      rw [decide_eq_true c]
      exact qt _ (Same.refl _)
    · rw [if_neg c] at qt
      rw [decide_eq_false c]
      exact qt _ (Same.refl _)
  intro H1 s1 hD
  refine ⟨(show 1 ≤ sizeLine by decide), fun p np => ?_⟩
  obtain ⟨H2, e2, s2, hp2⟩ := fresh (.lst [V.ref D]) np
  rw [e2]
  have nHp : H p = none := s1.free np
  refine ⟨_, rfl, _, _, rfl, ⟨by decide, by decide, by omega, by omega⟩, ?_⟩
  rw [show ((m : Int) - 1).toNat = m - 1 by omega]
  refine for_range (lo := 1) (n := m - 1) (fun k σ H3 => ∃ v5 v6 v7 v8 v9 v10 v11, σ = [some (.ref a), some (.int t), some (.int m), some (.int step), some (.ref p), v5, v6, v7, v8, v9, v10, v11] ∧ Same H H3 ∧ CountsAt H3 p S t step (k + 1))
    ⟨none, none, none, none, none, none, none, rfl, s1.trans s2, [D], hp2, rfl, fun k a' e => ?_⟩ ?_ ?_
  · have hk : k = 0 := by
      have := (List.getElem?_eq_some_iff.mp e).1
      rw [List.length_singleton] at this
      omega
    subst hk
    cases e
    exact s2 _ _ hD
  · rintro k σ H3 hk ⟨v5, v6, v7, v8, v9, v10, v11, rfl, s3, as, ha, hal, hat⟩
    have hlt : k < as.length := by omega
    have hrow := hat k as[k] (List.getElem?_eq_getElem hlt)
    refine ⟨_, rfl, _, rfl, p, _, -1, .ref as[k], rfl, rfl, .inl (.inl ha), at_end (n := k) (by rw [List.length_map, hal]) (by rw [List.getElem?_map, List.getElem?_eq_getElem hlt]; rfl), Nat.zero_le _, fun ph nph => ?_⟩
    obtain ⟨H4, e4, s4, hph⟩ := fresh (.lst []) nph
    rw [e4]
    refine ⟨(show 2 ≤ sizeLine by decide), fun pt npt => ?_⟩
    obtain ⟨H5, e5, s5, hpt⟩ := fresh (.tup [V.ref as[k], V.ref ph]) npt
    rw [e5]
    refine ⟨pt, _, rfl, .inl (.inl hpt), rfl, _, _, rfl, _, _, rfl, rfl, ?_⟩
    have s35 := s4.trans s5
    refine ⟨_, rfl, a, _, rfl, (s3.trans s35).seq hS, ?_⟩
    refine for_it (walk_enum (K := K) (a := a) (xs := S.map V.int)) (fun j σ H6 => ∃ v8 v9 v10 v11, σ = [some (.ref a), some (.int t), some (.int m), some (.int step), some (.ref p), some (.int (1 + (k : Int))), some (.ref as[k]), some (.ref ph), v8, v9, v10, v11] ∧ Same H3 H6 ∧ H6 ph = some (.lst ((cntRow S t step (k + 1) j).map V.int)))
      ⟨_, _, _, _, rfl, s35, s5 _ _ hph⟩ (fun j σ H6 _ ⟨_, _, _, _, _, s, _⟩ => (s3.trans s).seq hS) ?_ ?_
    · rintro j x σ H6 H7 hj ⟨v8, v9, v10, v11, rfl, s6, hph6⟩ ⟨t2, y, z, rfl, nt2, rfl, ey, ez⟩
      cases ey
      obtain ⟨n, hn, rfl⟩ := int_at ez
      rw [List.length_map] at hj
      have en : S.getD j 0 = n := by rw [List.getD_eq_getElem?_getD, hn]; rfl
      have s7 : Same H6 (upd H6 t2 (.tup [.int (j : Nat), .int n])) := same_upd nt2
      refine ⟨t2, _, rfl, .inl (.inl upd_same), rfl, _, _, rfl, _, _, rfl, rfl, ?_⟩
      generalize upd H6 t2 (.tup [.int (j : Nat), .int n]) = H7 at s7
      have s37 := s6.trans s7
      have hS7 := (s3.trans s37).seq hS
      have hml : (S.map V.int).length = S.length := List.length_map _
      refine ⟨_, rfl, _, _, rfl, rfl, _, rfl, a, _, rfl, .inl hS7, _, _, rfl, ⟨by omega, by omega, by omega, by omega⟩, fun D nD => ?_⟩
      rw [show (((S.map V.int).length : Int) - ((j : Int) + 1)).toNat = S.length - (j + 1) by omega]
      refine lc_selR (lo := (j : Int) + 1) (n := S.length - (j + 1)) ((List.range (S.length - (j + 1))).map fun i => if S.getD (j + 1 + i) 0 - n ≤ step then some (V.int (((j + 1 : Nat) : Int) + (i : Int))) else none) nD (by rw [List.length_map, List.length_range]) (small4 (by omega)) (fun x => rfl) ?_ ?_
      · intro i o H' hi ho s Qt qt
        rw [List.getElem?_map, List.getElem?_range hi] at ho
        cases ho
        have hix : (j : Int) + 1 + (i : Int) = ((j + 1 + i : Nat) : Int) := by omega
        dsimp only at qt
        refine ⟨_, rfl, _, rfl, a, _, _, .int (S.getD (j + 1 + i) 0), rfl, rfl, s.seq hS7, at_int hix (by omega), ?_⟩
        refine ⟨_, rfl, _, _, rfl, rfl, _, rfl, _, _, rfl, rfl, _, rfl, ?_⟩
        by_cases c : S.getD (j + 1 + i) 0 - n ≤ step
        · rw [if_pos c] at qt
          rw [decide_eq_true c]
          refine iteT ⟨_, rfl, ?_⟩
          rw [show (j : Int) + 1 + (i : Int) = ((j + 1 : Nat) : Int) + (i : Int) by omega]
          exact qt _ (Same.refl _)
        · rw [if_neg c] at qt
          rw [decide_eq_false c]
          exact iteF (qt _ (Same.refl _))
      · intro H8 s8 hD
        rw [sel_near S step n (j + 1) (List.range (S.length - (j + 1)))] at hD
        have hD' : H8 D = some (.lst ((intsN (nearF S step n (j + 1) (S.length - (j + 1)))).map V.int)) := hD
        have hsum := near_sum S t step n k (S.length - (j + 1)) (j + 1) rfl
        have hmem : ∀ i ∈ nearF S step n (j + 1) (S.length - (j + 1)), i < S.length := fun i hi => by
          have := near_mem hi
          omega
        have hnl := near_len S step n (j + 1) (S.length - (j + 1))
        generalize nearF S step n (j + 1) (S.length - (j + 1)) = nr at hD' hsum hmem hnl
        have hgrow := cntRow_next S t step (k + 1) j
        have s38 := s37.trans s8
        have hph8 := s8 _ _ (s7 _ _ hph6)
        refine ⟨_, rfl, .inl ⟨rfl, _, .inl (.inl hph8)⟩, ?_⟩
        refine ⟨_, rfl, D, rfl, ⟨_, .inl (.inl hD')⟩, fun D2 nD2 => ?_⟩
        refine lc_mapL (K := K) (xs := (intsN nr).map V.int) ((intsN (nr.map fun i => cntG t step (S.getD i 0) (S.drop (i + 1)) k)).map V.int) nD2 (.inl (.inl hD')) (by unfold intsN; simp) (by unfold intsN; rw [List.length_map, List.length_map]; exact small4 (by omega)) (fun x => rfl) ?_ ?_
        · intro i x y H' hx hy s Qt qt
          have hi : ∃ u, nr[i]? = some u := by
            cases e : nr[i]? with
            | none => unfold intsN at hx; rw [List.getElem?_map, List.getElem?_map, e] at hx; cases hx
            | some u => exact ⟨u, rfl⟩
          obtain ⟨u, hu⟩ := hi
          unfold intsN at hx hy
          rw [List.getElem?_map, List.getElem?_map, hu] at hx
          rw [List.getElem?_map, List.getElem?_map, List.getElem?_map, hu] at hy
          cases hx
          cases hy
          have hr' := ((s38.trans s) _ _ hrow)
          refine ⟨_, rfl, _, rfl, as[k], _, _, _, rfl, rfl, .inl (.inl hr'), at_of (j := u) rfl (cntRow_at (hmem u (List.mem_of_getElem? hu))), ?_⟩
          exact qt _ (Same.refl _)
        · intro H9 s9 hD9
          refine ⟨D2, _, rfl, .inl (.inl hD9), ?_⟩
          rw [sum_cast, hsum]
          have hph9 := s9 _ _ hph8
          refine ⟨ph, _, _, rfl, rfl, hph9, by rw [List.length_map, cntRow_len]; exact small4 (by omega), ?_⟩
          refine ⟨_, _, _, _, rfl, same_over nph (s38.trans s9), ?_⟩
          rw [upd_same, hgrow, en, List.map_append]
          rfl
    · rintro σ H6 ⟨v8, v9, v10, v11, rfl, s6, hph6⟩
      rw [List.length_map] at hph6
      have hp6 := s6 _ _ ha
      have nphp : ph ≠ p := (ne_of_none ha nph).symm
      refine ⟨_, rfl, .inl ⟨rfl, _, .inl (.inl hp6)⟩, _, rfl, p, _, _, rfl, rfl, hp6, by rw [List.length_map]; exact small4 (by omega), ?_⟩
      refine ⟨_, _, _, _, _, _, _, rfl, same_over nHp (s3.trans s6), as ++ [ph], by rw [upd_same, List.map_append]; rfl, by rw [List.length_append, hal]; rfl, fun i a' e => ?_⟩
      by_cases c : i < as.length
      · rw [List.getElem?_append_left c] at e
        have h1 := hat i a' e
        have hne : a' ≠ p := fun z => by
          rw [z, ha] at h1
          have h2 := congrArg (fun o : Option HO => match o with | some (.lst l) => l[0]? | _ => none) h1
          have h3 : (as.map V.ref)[0]? = ((cntRow S t step i S.length).map V.int)[0]? := h2
          rw [List.getElem?_map, List.getElem?_eq_getElem (by omega), cntRow_at hl0] at h3
          cases h3
        rw [upd_ne hne]
        exact s6 _ _ h1
      · rw [List.getElem?_append_right (by omega)] at e
        have hi : i - as.length = 0 := by
          have := (List.getElem?_eq_some_iff.mp e).1
          rw [List.length_singleton] at this
          omega
        rw [hi] at e
        cases e
        have : i = k + 1 := by omega
        subst this
        rw [upd_ne nphp]
        exact hph6
  · rintro σ H3 ⟨v5, v6, v7, v8, v9, v10, v11, rfl, s3, hR⟩
    rw [show m - 1 + 1 = m by omega] at hR
    exact ⟨_, rfl, q _ p s3 nHp hR⟩
def sp_how_many_tables (K : PySem.W.Frag) (CS CN : Addr) : Sp := fun vs H Q E => ∃ v tv mv : V, vs = [v, tv, mv] ∧ StartsV K H E CS CN v tv mv fun _ S => ∃ (t : Int) (m : Nat), tv = .int t ∧ mv = .int m ∧ lastI S < t ∧ 1 ≤ m ∧ m ≤ S.length ∧ ∀ H' L, Same H H' → bst t 0 (S.drop 1) (m - 1) = some L → Q (.int (cntG t L 0 (S.drop 1) (m - 1) : Nat)) H'
theorem G_how_many_tables (T : Top K mg) : FnOk P w K mg base (L2.CX P w) 6 T.f_how_many_tables T.fd_how_many_tables ["starts", "total", "many"] (sp_how_many_tables K T.C_InvalidStarts T.C_InvalidNumber) := by
  refine T.F_how_many_tables.ok (CX := L2.CX P w) sc_how_many_tables (fun vs H Q E h => by obtain ⟨v, tv, mv, rfl, _⟩ := h; rfl) (fun cdv A outer s H vs Q E hr h => ?_)
  obtain ⟨v, tv, mv, rfl, h⟩ := h
  refine ⟨_, (pss_cons (ps_set (i := 3) sc_how_many_tables.nd rfl (by first | exact Or.inl rfl | exact Or.inr rfl) (pe_call (G_least_step (P := P) T) (hr.mono (by decide)) (by rfl) T.g_least_step T.F_least_step.kp T.b_least_step .nil (passes_call (takes_of rfl rfl rfl rfl) (fun _ _ _ _ h => h)) (pa_cons (pv 0) (pa_cons (pv 1) (pa_cons (pv 2) pa_nil)))))
  (pss_one (ps_ret (pe_ix (k_ixL K rfl) (pe_ix (k_ixL K rfl) (pe_call (G_table_counts (P := P) T) (hr.mono (by decide)) (by rfl) T.g_table_counts T.F_table_counts.kp T.b_table_counts .nil pass0 (pa_cons (pv 0) (pa_cons (pv 1) (pa_cons (pv 2) (pa_cons (pv 3) pa_nil))))) (pe_un un_neg pe_int) (fun _ _ => rfl)) pe_int (fun _ _ => rfl))))), ?_⟩
  refine ⟨_, rfl, _, rfl, _, rfl, v, tv, mv, rfl, h.mono fun a S ev ha hg hq => ?_⟩
  obtain ⟨t, m, rfl, rfl, ht, hm1, hm2, q⟩ := hq
  subst ev
  refine ⟨t, m, rfl, rfl, ht, hm1, hm2, fun H1 L s1 hL => ?_⟩
  have hS : SqL K H1 a (S.map V.int) := .inl (.inl (s1 _ _ ha))
  have hl := hg.1
  obtain ⟨z0, z1⟩ := hg.at0
  refine ⟨_, rfl, _, rfl, _, rfl, _, rfl, a, S, t, m, L, rfl, hS, z1, hl, hm1, by omega, fun H2 p s2 np hR => ?_⟩
  obtain ⟨as, hp, hal, hat⟩ := hR
  have hlt : m - 1 < as.length := by omega
  have hrow := hat (m - 1) as[m - 1] (List.getElem?_eq_getElem hlt)
  refine ⟨_, rfl, p, _, -1, .ref as[m - 1], rfl, rfl, .inl (.inl hp), at_end (n := m - 1) (by rw [List.length_map]; omega) (by rw [List.getElem?_map, List.getElem?_eq_getElem hlt]; rfl), ?_⟩
  refine ⟨as[m - 1], _, 0, _, rfl, rfl, .inl (.inl hrow), at_of (j := 0) rfl (cntRow_at z1), ?_⟩
  rw [z0]
  exact q _ L (s1.trans s2) hL
end
end My

namespace My
open PySem PySem.Spec PyProof.Rows L2 Pre
/-! ### tables by their numbers -/
theorem for_to {it : TI} {g : TG} {tb : TS} {D : Ends} {σ : L2.St} {H : Hp} (Ex : L2.St → Hp → Prop) (hx : ∀ σ H, Ex σ H → D.nx σ H) (h : (∀ σ H, Ex σ H → D.nx σ H) → tFor it g tb D σ H) : tFor it g tb D σ H := h hx
local macro_rules | `(tactic| walk_at "go") => `(tactic| repeat (first | (with_reducible first | refine iteT ?_ | refine iteF ?_ | refine iteNtt ?_ | refine iteNff ?_ | refine iteET (by omega) ?_ | refine iteEF (by omega) ?_ | refine iteENT (by omega) ?_ | refine iteENF (by omega) ?_ | refine iteDT (by omega) ?_ | refine iteDF (by omega) ?_ | refine iteNT (by omega) ?_ | refine iteNF (by omega) ?_) | refine ⟨_, rfl, ?_⟩ | refine ⟨_, _, rfl, rfl, ?_⟩ | refine ⟨_, _, rfl, ?_⟩ | refine ⟨rfl, ?_⟩ | refine .inl ⟨_, rfl, ?_⟩ | refine .inr ⟨_, rfl, ?_⟩))
local macro_rules | `(tactic| walk_at "b") => `(tactic| try dsimp (config := { proj := false, iota := false, eta := false, zeta := false }) only)
section
variable {P : Program} {w : World} {K : PySem.W.Frag} {mg : Str → Option Value} {base : Heap} [pf : Sup.PF P fileS]
def sp_numbered (K : PySem.W.Frag) : Sp := fun vs H Q _ => ∃ (a pc : Addr) (S : List Int) (t step : Int) (m left : Nat) (tab : List Int), vs = [.ref a, .ref pc, .int step, .int left] ∧ SqL K H a (S.map V.int) ∧ CountsAt H pc S t step m ∧ S.getD 0 0 = 0 ∧ 0 < S.length ∧ S.length ≤ 60 ∧ 1 ≤ m ∧ m ≤ 60 ∧
  (goods t step 0 (S.drop 1) (m - 1))[left]? = some tab ∧ ∀ H' p, Same H H' → H p = none → H' p = some (.lst ((0 :: tab).map V.int)) → Q (.ref p) H'
theorem G_numbered (T : Top K mg) : FnOk P w K mg base CX0 1 T.f_numbered T.fd_numbered ["starts", "counts", "step", "number"] (sp_numbered K) := by
  refine T.F_numbered.ok sc_numbered (fun vs H Q E h => by obtain ⟨a, pc, S, t, step, m, left, tab, rfl, _⟩ := h; rfl) (fun cdv A outer s H vs Q E hr h => ?_)
  obtain ⟨a, pc, S, t, step, m, left, tab, rfl, hS, hC, z0, hl0, hl, hm1, hm, hg, q⟩ := h
  refine ⟨_, PSs.nox (pss_cons (ps_par3 (by rfl) sc_numbered.nd (i := 5) (j := 6) (l := 7) rfl rfl rfl (by decide) (by decide) (by decide) rfl rfl rfl (pa_cons (pe_lst (pa_cons pe_int pa_nil)) (pa_cons pe_int (pa_cons (pv 3) pa_nil))) (by rfl))
  (pss_cons (ps_for PassesOwn.never rfl (k_piL K rfl (k_rev2 K rfl (pv 1))) (pg_name (i := 4) sc_numbered.nd rfl (by first | exact Or.inl rfl | exact Or.inr rfl))
    (pss_cons (ps_for PassesOwn.never rfl (pi_range2 (by rfl) T.n_range (pa_cons (pe_op op_add (pv 6) pe_int) (pa_cons (pe_callB (k_len K rfl) (by rfl) T.n_len (by decide +kernel) (pa_cons (pv 0) pa_nil)) pa_nil))) (pg_name (i := 8) sc_numbered.nd rfl (by first | exact Or.inl rfl | exact Or.inr rfl))
    (pss_one (ps_if (pt_cmpR op_le (pe_op op_sub (pe_ix (k_ixL K rfl) (pv 0) (pv 8) (fun _ _ => rfl)) (pe_ix (k_ixL K rfl) (pv 0) (pv 6) (fun _ _ => rfl))) (pv 2) (nomark _))
    (pss_cons (ps_if (pt_cmpR op_lt (pv 7) (pe_ix (k_ixL K rfl) (pv 4) (pv 8) (fun _ _ => rfl)) (nomark _))
    (pss_one ps_break)
    pss_nil)
  (pss_one (ps_set (i := 7) sc_numbered.nd rfl (by first | exact Or.inl rfl | exact Or.inr rfl) (pe_op op_sub (pv 7) (pe_ix (k_ixL K rfl) (pv 4) (pv 8) (fun _ _ => rfl))))))
    pss_nil)))
  (pss_cons (ps_set (i := 6) sc_numbered.nd rfl (by first | exact Or.inl rfl | exact Or.inr rfl) (pv 8))
  (pss_one (ps_expr (pe_bm PySem.F.plainAttrs_list PySem.F.slot_list_append PySem.F.type_list_append mt_append (pv 5) (pa_cons (pe_ix (k_ixL K rfl) (pv 0) (pv 6) (fun _ _ => rfl)) pa_nil)))))))
  (pss_one (ps_ret (pv 5))))), ?_⟩
  obtain ⟨as, hpc, hal, hat⟩ := hC
  refine ⟨(show 1 ≤ sizeLine by decide), fun pt npt => ?_⟩
  obtain ⟨H1, e1, s1, hpt⟩ := fresh (.lst ([(0 : Int)].map V.int)) npt
  rw [show upd H pt (.lst [V.int 0]) = H1 from e1]
  refine ⟨_, rfl, _, _, _, rfl, ?_⟩
  refine ⟨_, rfl, pc, _, rfl, .inl (.inl (s1 _ _ hpc)), fun pr npr => ?_⟩
  obtain ⟨H2, e2, s2, hpr⟩ := fresh (.lst ((as.map V.ref).dropLast.reverse)) npr
  rw [e2]
  have nprt : pr ≠ pt := (ne_of_none hpt npr).symm
  refine ⟨pr, rfl, ⟨_, .inl (.inl hpr)⟩, for_list (K := K) (a := pr) (xs := (as.map V.ref).dropLast.reverse) (fun i σ H3 => ∃ (v4 v8 : Option V) (at_ l : Nat) (dn rs : List Int), σ = [some (.ref a), some (.ref pc), some (.int step), some (.int left), v4, some (.ref pt), some (.int at_), some (.int l), v8] ∧ Same H H3 ∧ H3 pr = some (.lst ((as.map V.ref).dropLast.reverse)) ∧ H3 pt = some (.lst ((0 :: dn).map V.int)) ∧ dn.length ≤ i ∧ at_ < S.length ∧ (goods t step (S.getD at_ 0) (S.drop (at_ + 1)) (m - 1 - i))[l]? = some rs ∧ dn ++ rs = tab)
    ⟨none, none, 0, left, [], tab, rfl, s1.trans s2, hpr, s2 _ _ hpt, Nat.le_refl _, hl0, by rw [z0]; exact hg, rfl⟩ (fun i σ H3 _ ⟨_, _, _, _, _, _, _, _, e, _⟩ => .inl (.inl e)) ?_ ?_⟩
  · rintro i x σ H3 hx ⟨v4, v8, at_, l, dn, rs, rfl, s3, hpr3, hpt3, hdl, hat_, hgo, htab⟩
    have hi : i < m - 1 := by
      have := (List.getElem?_eq_some_iff.mp hx).1
      rw [List.length_reverse, List.length_dropLast, List.length_map] at this
      omega
    have hk : m - 2 - i < as.length := by omega
    have hxe : x = .ref as[m - 2 - i] := by
      rw [List.getElem?_reverse (by rw [List.length_dropLast, List.length_map]; omega), List.length_dropLast, List.length_map, List.getElem?_dropLast, if_pos (by rw [List.length_map]; omega), List.getElem?_map, show as.length - 1 - 1 - i = m - 2 - i by omega, List.getElem?_eq_getElem hk] at hx
      exact (Option.some.inj hx).symm
    subst hxe
    have hrow := s3 _ _ (hat (m - 2 - i) as[m - 2 - i] (List.getElem?_eq_getElem hk))
    rw [show m - 1 - i = (m - 2 - i) + 1 by omega] at hgo
    rw [show m - 1 - (i + 1) = m - 2 - i by omega]
    generalize as[m - 2 - i] = ar at hrow ⊢
    generalize m - 2 - i = k at hrow hgo ⊢
    have hS3 := s3.seq hS
    have hml : (S.map V.int).length = S.length := List.length_map _
    refine for_to (fun σ H4 => ∃ (sp l2 : Nat) (xs : List Int), σ = [some (.ref a), some (.ref pc), some (.int step), some (.int left), some (.ref ar), some (.ref pt), some (.int at_), some (.int l2), some (.int sp)] ∧ H4 = H3 ∧ sp < S.length ∧ rs = S.getD sp 0 :: xs ∧ (goods t step (S.getD sp 0) (S.drop (sp + 1)) k)[l2]? = some xs) ?_ ?_
    · rintro σ H4 ⟨sp, l2, xs, rfl, rfl, hsp, rfl, hgo2⟩
      refine ⟨_, rfl, _, rfl, .inl ⟨rfl, _, .inl (.inl hpt3)⟩, ?_⟩
      refine ⟨_, rfl, _, rfl, a, _, _, .int (S.getD sp 0), rfl, rfl, hS3, at_int rfl hsp, ?_⟩
      refine ⟨pt, _, _, rfl, rfl, hpt3, by rw [List.length_map, List.length_cons]; exact small4 (by omega), ?_⟩
      refine ⟨_, _, sp, l2, dn ++ [S.getD sp 0], xs, rfl, same_over npt s3, by rw [upd_ne nprt]; exact hpr3, ?_, by rw [List.length_append, List.length_singleton]; omega, hsp, hgo2, by rw [List.append_assoc]; exact htab⟩
      rw [upd_same, ← List.cons_append, List.map_append]
      rfl
    · intro hx
      refine ⟨_, rfl, _, _, rfl, rfl, _, rfl, a, _, rfl, .inl hS3, _, _, rfl, ⟨by omega, by omega, by omega, by omega⟩, ?_⟩
      rw [show (((S.map V.int).length : Int) - ((at_ : Int) + 1)).toNat = S.length - (at_ + 1) by omega]
      refine for_range (lo := (at_ : Int) + 1) (n := S.length - (at_ + 1)) (fun e σ H4 => ∃ (v8 : Option V) (l2 : Nat), σ = [some (.ref a), some (.ref pc), some (.int step), some (.int left), some (.ref ar), some (.ref pt), some (.int at_), some (.int l2), v8] ∧ H4 = H3 ∧ (goods t step (S.getD at_ 0) (S.drop (at_ + 1 + e)) (k + 1))[l2]? = some rs) ⟨_, l, rfl, rfl, hgo⟩ ?_ ?_
      · rintro e σ H4 he ⟨v8, l2, rfl, rfl, hg2⟩
        have hix : (at_ : Int) + 1 + (e : Int) = ((at_ + 1 + e : Nat) : Int) := by omega
        have hsl : at_ + 1 + e < S.length := by omega
        refine ⟨_, rfl, _, rfl, a, _, _, .int (S.getD (at_ + 1 + e) 0), rfl, rfl, hS3, at_int hix hsl, ?_⟩
        refine ⟨_, rfl, _, rfl, a, _, _, .int (S.getD at_ 0), rfl, rfl, hS3, at_int rfl hat_, _, _, rfl, rfl, _, rfl, _, _, rfl, rfl, _, rfl, ?_⟩
        rw [drop_get hsl] at hg2
        have hnx : at_ + 1 + (e + 1) = at_ + 1 + e + 1 := by omega
        have hcell : ∀ R : VK, R (.int ((cntG t step (S.getD (at_ + 1 + e) 0) (S.drop (at_ + 1 + e + 1)) k : Nat) : Int)) H4 → rIxL K (.ref ar) (.int ((at_ : Int) + 1 + (e : Int))) H4 R := fun R r => ⟨ar, _, _, _, rfl, rfl, .inl (.inl hrow), at_of hix (cntRow_at hsl), r⟩
        rcases goods_at hg2 with ⟨h1, h2, xs, h3, h4⟩ | ⟨h1, h2⟩
        · rw [decide_eq_true h1]
          refine iteT ⟨_, rfl, _, rfl, _, rfl, hcell _ ⟨_, _, rfl, rfl, _, rfl, ?_⟩⟩
          rw [decide_eq_true (show ((l2 : Nat) : Int) < ((cntG t step (S.getD (at_ + 1 + e) 0) (S.drop (at_ + 1 + e + 1)) k : Nat) : Int) from Int.ofNat_lt.mpr h2)]
          refine iteT (hx _ _ ⟨at_ + 1 + e, l2, xs, ?_, rfl, hsl, h3, h4⟩)
          rw [← hix]
          rfl
        · by_cases c : S.getD (at_ + 1 + e) 0 - S.getD at_ 0 ≤ step
          · rw [if_pos c] at h2
            have hnl : ¬ l2 < cntG t step (S.getD (at_ + 1 + e) 0) (S.drop (at_ + 1 + e + 1)) k := fun z => h1 ⟨c, z⟩
            rw [decide_eq_true c]
            refine iteT ⟨_, rfl, _, rfl, _, rfl, hcell _ ⟨_, _, rfl, rfl, _, rfl, ?_⟩⟩
            rw [decide_eq_false (show ¬ ((l2 : Nat) : Int) < ((cntG t step (S.getD (at_ + 1 + e) 0) (S.drop (at_ + 1 + e + 1)) k : Nat) : Int) from fun z => hnl (Int.ofNat_lt.mp z))]
            refine iteF ⟨_, rfl, _, rfl, _, rfl, hcell _ ⟨_, _, rfl, rfl, ?_⟩⟩
            refine ⟨some (.int ((at_ : Int) + 1 + (e : Int))), l2 - cntG t step (S.getD (at_ + 1 + e) 0) (S.drop (at_ + 1 + e + 1)) k, ?_, rfl, by rw [hnx]; exact h2⟩
            rw [Int.natCast_sub (by omega)]
            rfl
          · rw [if_neg c] at h2
            rw [decide_eq_false c]
            exact iteF ⟨_, l2, rfl, rfl, by rw [hnx]; exact h2⟩
      · rintro σ H4 ⟨v8, l2, rfl, rfl, hg2⟩
        rw [List.drop_of_length_le (by omega), goods_nil] at hg2
        simp at hg2
  · rintro σ H3 ⟨v4, v8, at_, l, dn, rs, rfl, s3, hpr3, hpt3, hdl, hat_, hgo, htab⟩
    rw [List.length_reverse, List.length_dropLast, List.length_map, show m - 1 - (as.length - 1) = 0 by omega, goods_zero] at hgo
    have hrs : rs = [] := by
      by_cases c : t - S.getD at_ 0 ≤ step
      · rw [if_pos c] at hgo
        cases l with
        | zero => exact (Option.some.inj hgo).symm
        | succ l => simp at hgo
      · rw [if_neg c] at hgo
        simp at hgo
    rw [hrs, List.append_nil] at htab
    refine ⟨_, rfl, q _ pt s3 npt ?_⟩
    rw [hpt3, htab]
/-- numbers of tables -/
def sp_table_at (K : PySem.W.Frag) (CS CN : Addr) : Sp := fun vs H Q E => ∃ v tv mv nv : V, vs = [v, tv, mv, nv] ∧ StartsV K H E CS CN v tv mv fun _ S => ∃ (t : Int) (m : Nat), tv = .int t ∧ mv = .int m ∧ lastI S < t ∧ 1 ≤ m ∧ m ≤ S.length ∧ ∀ L, bst t 0 (S.drop 1) (m - 1) = some L →
  ((∃ n tab, nv = .int ((n : Nat) : Int) ∧ (goods t L 0 (S.drop 1) (m - 1))[n]? = some tab ∧ ∀ H' p, Same H H' → H p = none → H' p = some (.lst ((0 :: tab).map V.int)) → Q (.ref p) H') ∨
    (NumV K H nv 0 (some (((cntG t L 0 (S.drop 1) (m - 1) : Nat) : Int) - 1)) false ∧ EE H E CN nv))
theorem G_table_at (T : Top K mg) : FnOk P w K mg base (L2.CX P w) 6 T.f_table_at T.fd_table_at ["starts", "total", "many", "number"] (sp_table_at K T.C_InvalidStarts T.C_InvalidNumber) := by
  refine T.F_table_at.ok (CX := L2.CX P w) sc_table_at (fun vs H Q E h => by obtain ⟨v, tv, mv, nv, rfl, _⟩ := h; rfl) (fun cdv A outer s H vs Q E hr h => ?_)
  obtain ⟨v, tv, mv, nv, rfl, h⟩ := h
  refine ⟨_, (pss_cons (ps_set (i := 4) sc_table_at.nd rfl (by first | exact Or.inl rfl | exact Or.inr rfl) (pe_call (G_least_step (P := P) T) (hr.mono (by decide)) (by rfl) T.g_least_step T.F_least_step.kp T.b_least_step .nil (passes_call (takes_of rfl rfl rfl rfl) (fun _ _ _ _ h => h)) (pa_cons (pv 0) (pa_cons (pv 1) (pa_cons (pv 2) pa_nil)))))
  (pss_cons (ps_set (i := 5) sc_table_at.nd rfl (by first | exact Or.inl rfl | exact Or.inr rfl) (pe_call (G_table_counts (P := P) T) (hr.mono (by decide)) (by rfl) T.g_table_counts T.F_table_counts.kp T.b_table_counts .nil pass0 (pa_cons (pv 0) (pa_cons (pv 1) (pa_cons (pv 2) (pa_cons (pv 4) pa_nil))))))
  (pss_cons (ps_if (pt_not (pt_val (pe_call (G_is_between (P := P) T) (hr.mono (by decide)) (by rfl) T.g_is_between T.F_is_between.kp T.b_is_between .nil pass0 (pa_cons (pv 3) (pa_cons pe_int (pa_cons (pe_op op_sub (pe_ix (k_ixL K rfl) (pe_ix (k_ixL K rfl) (pv 5) (pe_un un_neg pe_int) (fun _ _ => rfl)) pe_int (fun _ _ => rfl)) pe_int) pa_nil))))))
    (pss_one (ps_raise rfl (takes_of rfl rfl rfl rfl) (pmk_oex T.er_InvalidNumber.sup.T T.er_InvalidNumber.ini T.er_InvalidNumber.ity (G_InvalidNumber___init__ (P := P) (CX := CX0) T) (hr.mono (by decide)) T.er_InvalidNumber.bnd .nil pass0 (by rfl) T.gc_InvalidNumber (pa_cons (pv 3) pa_nil))))
    pss_nil)
  (pss_one (ps_ret (pe_call (G_numbered (P := P) T) (hr.mono (by decide)) (by rfl) T.g_numbered T.F_numbered.kp T.b_numbered .nil pass0 (pa_cons (pv 0) (pa_cons (pv 5) (pa_cons (pv 4) (pa_cons (pv 3) pa_nil)))))))))), ?_⟩
  refine ⟨_, rfl, _, rfl, _, rfl, v, tv, mv, rfl, h.mono fun a S ev ha hg hq => ?_⟩
  obtain ⟨t, m, rfl, rfl, ht, hm1, hm2, q⟩ := hq
  subst ev
  refine ⟨t, m, rfl, rfl, ht, hm1, hm2, fun H1 L s1 hL => ?_⟩
  have hS : SqL K H1 a (S.map V.int) := .inl (.inl (s1 _ _ ha))
  have hl := hg.1
  obtain ⟨z0, z1⟩ := hg.at0
  refine ⟨_, rfl, _, rfl, _, rfl, _, rfl, a, S, t, m, L, rfl, hS, z1, hl, hm1, by omega, fun H2 p s2 np hR => ?_⟩
  obtain ⟨as, hp, hal, hat⟩ := id hR
  have hlt : m - 1 < as.length := by omega
  have hrow := hat (m - 1) as[m - 1] (List.getElem?_eq_getElem hlt)
  refine ⟨_, rfl, _, rfl, _, rfl, p, _, -1, .ref as[m - 1], rfl, rfl, .inl (.inl hp), at_end (n := m - 1) (by rw [List.length_map]; omega) (by rw [List.getElem?_map, List.getElem?_eq_getElem hlt]; rfl), ?_⟩
  refine ⟨as[m - 1], _, 0, _, rfl, rfl, .inl (.inl hrow), at_of (j := 0) rfl (cntRow_at z1), ?_⟩
  rw [z0]
  refine ⟨_, _, rfl, rfl, ?_⟩
  have s12 := s1.trans s2
  rcases q L hL with ⟨n, tab, rfl, htab, q⟩ | ⟨hn, q⟩
  · have hnl : n < cntG t L 0 (S.drop 1) (m - 1) := (List.getElem?_eq_some_iff.mp htab).1
    refine ⟨.int (n : Nat), 0, some (((cntG t L 0 (S.drop 1) (m - 1) : Nat) : Int) - 1), true, rfl, .inl ⟨_, rfl, (decide_eq_true ⟨by omega, fun j h => by cases h; omega⟩).symm⟩, ?_⟩
    refine ⟨_, rfl, iteF ?_⟩
    refine ⟨_, rfl, _, rfl, _, rfl, _, rfl, a, p, S, t, L, m, n, tab, rfl, s2.seq hS, hR, z0, z1, hl, hm1, by omega, htab, fun H3 pt s3 npt hpt => ?_⟩
    exact q _ pt (s12.trans s3) (s12.free npt) hpt
  · refine ⟨nv, 0, some (((cntG t L 0 (S.drop 1) (m - 1) : Nat) : Int) - 1), false, rfl, hn.same s12, ?_⟩
    refine ⟨_, rfl, iteT ⟨_, rfl, mk_sup fun dd nd => q _ dd s12 nd⟩⟩
def sp_table (K : PySem.W.Frag) (CS CN : Addr) : Sp := fun vs H Q E => ∃ v tv mv : V, vs = [v, tv, mv] ∧ StartsV K H E CS CN v tv mv fun _ S => ∃ (t : Int) (m : Nat), tv = .int t ∧ mv = .int m ∧ lastI S < t ∧ 1 ≤ m ∧ m ≤ S.length ∧ ∀ L, bst t 0 (S.drop 1) (m - 1) = some L →
  ∀ H' p tab, (goods t L 0 (S.drop 1) (m - 1))[0]? = some tab → Same H H' → H p = none → H' p = some (.lst ((0 :: tab).map V.int)) → Q (.ref p) H'
theorem G_table (T : Top K mg) : FnOk P w K mg base (L2.CX P w) 7 T.f_table T.fd_table ["starts", "total", "many"] (sp_table K T.C_InvalidStarts T.C_InvalidNumber) := by
  refine T.F_table.ok (CX := L2.CX P w) sc_table (fun vs H Q E h => by obtain ⟨v, tv, mv, rfl, _⟩ := h; rfl) (fun cdv A outer s H vs Q E hr h => ?_)
  obtain ⟨v, tv, mv, rfl, h⟩ := h
  refine ⟨_, (pss_one (ps_ret (pe_call (G_table_at (P := P) T) (hr.mono (by decide)) (by rfl) T.g_table_at T.F_table_at.kp T.b_table_at .nil (passes_call (takes_of rfl rfl rfl rfl) (fun _ _ _ _ h => h)) (pa_cons (pv 0) (pa_cons (pv 1) (pa_cons (pv 2) (pa_cons pe_int pa_nil))))))), ?_⟩
  refine ⟨_, rfl, _, rfl, _, rfl, v, tv, mv, .int 0, rfl, h.mono fun a S ev ha hg hq => ?_⟩
  obtain ⟨t, m, rfl, rfl, ht, hm1, hm2, q⟩ := hq
  refine ⟨t, m, rfl, rfl, ht, hm1, hm2, fun L hL => ?_⟩
  have hpos := goods_some hL
  have h0 : (goods t L 0 (S.drop 1) (m - 1))[0]? = some (goods t L 0 (S.drop 1) (m - 1))[0] := List.getElem?_eq_getElem hpos
  exact .inl ⟨0, _, rfl, h0, fun H' p s np hp => q L hL H' p _ h0 s np hp⟩
end
end My

namespace My
open PySem PySem.Spec PyProof.Rows L2 Pre
/-! ### lengths, runs -/
def endsL (S : List Int) (t : Int) : List Int := S.drop 1 ++ [t]
theorem ends_at {S : List Int} {t : Int} {j : Nat} (h : j < S.length) : (endsL S t)[j]? = some (endF S t j) := by
  unfold endsL endF
  by_cases c : j + 1 < S.length
  · rw [List.getElem?_append_left (by rw [List.length_drop]; omega), List.getElem?_drop, drop_get c, List.getD_eq_getElem?_getD, show 1 + j = j + 1 by omega, List.getElem?_eq_getElem c]
    rfl
  · rw [List.getElem?_append_right (by rw [List.length_drop]; omega), List.length_drop, show j - (S.length - 1) = 0 by omega, show S.drop (j + 1) = [] from List.drop_of_length_le (by omega)]
    rfl
theorem ends_len {S : List Int} {t : Int} (h : 0 < S.length) : (endsL S t).length = S.length := by
  unfold endsL
  rw [List.length_append, List.length_drop, List.length_singleton]
  omega
theorem lens_at : ∀ {r : List Int} {c t : Int} {j : Nat}, j < r.length + 1 → (lens c r t)[j]? = some (endF (c :: r) t j - (c :: r).getD j 0)
  | [], c, t, j, h => by
    have : j = 0 := by simp at h; omega
    subst this
    rfl
  | x :: r, c, t, 0, _ => rfl
  | x :: r, c, t, j + 1, h => by
    show (lens x r t)[j]? = _
    rw [lens_at (by simpa using h)]
    rfl
def sLens (S : List Int) (t : Int) : List Int := lens (S.getD 0 0) (S.drop 1) t
theorem sLens_at {S : List Int} {t : Int} {j : Nat} (h : j < S.length) : (sLens S t)[j]? = some (endF S t j - S.getD j 0) := by
  obtain ⟨c, r, rfl⟩ : ∃ c r, S = c :: r := by
    cases S with
    | nil => simp at h
    | cons c r => exact ⟨c, r, rfl⟩
  exact lens_at (by simpa using h)
theorem sLens_len {S : List Int} {t : Int} (h : 0 < S.length) : (sLens S t).length = S.length := by
  unfold sLens
  rw [lens_len, List.length_drop]
  omega
/-- a list of pairs of whole numbers -/
def PrsAt (H : Hp) (p : Addr) (ps : List (Int × Int)) : Prop := ∃ ts : List Addr, H p = some (.lst (ts.map V.ref)) ∧ ts.length = ps.length ∧ ∀ (k : Nat) (t : Addr) (q : Int × Int), ts[k]? = some t → ps[k]? = some q → H t = some (.tup [.int q.1, .int q.2])
theorem PrsAt.same {H H' : Hp} {p : Addr} {ps : List (Int × Int)} (h : PrsAt H p ps) (s : Same H H') : PrsAt H' p ps := by
  obtain ⟨ts, h1, h2, h3⟩ := h
  exact ⟨ts, s _ _ h1, h2, fun k t q a b => s _ _ (h3 k t q a b)⟩
theorem PrsAt.more {H : Hp} {p t : Addr} {ps : List (Int × Int)} {q : Int × Int} {H' : Hp} (h : PrsAt H p ps) (hn : H t = none) (s : ∀ b o, b ≠ p → b ≠ t → H b = some o → H' b = some o) (ht : H' t = some (.tup [.int q.1, .int q.2])) (hp : ∀ ts : List Addr, H p = some (.lst (ts.map V.ref)) → H' p = some (.lst (ts.map V.ref ++ [.ref t]))) : PrsAt H' p (ps ++ [q]) := by
  obtain ⟨ts, h1, h2, h3⟩ := h
  refine ⟨ts ++ [t], by rw [hp ts h1, List.map_append]; rfl, by rw [List.length_append, List.length_append, h2]; rfl, fun k t' q' a b => ?_⟩
  by_cases c : k < ts.length
  · rw [List.getElem?_append_left c] at a
    rw [List.getElem?_append_left (by omega)] at b
    have h4 := h3 k t' q' a b
    refine s _ _ ?_ (ne_of_none h4 hn) h4
    intro e
    rw [e, h1] at h4
    cases h4
  · rw [List.getElem?_append_right (by omega)] at a
    rw [List.getElem?_append_right (by omega), ← h2] at b
    have hk : k - ts.length = 0 := by
      have := (List.getElem?_eq_some_iff.mp a).1
      rw [List.length_singleton] at this
      omega
    rw [hk] at a b
    cases a
    cases b
    exact ht
def prI (p : Nat × Nat) : Int × Int := ((p.1 : Int), (p.2 : Int))
local macro_rules | `(tactic| walk_at "go") => `(tactic| repeat (first | (with_reducible first | refine iteT ?_ | refine iteF ?_ | refine iteNtt ?_ | refine iteNff ?_ | refine iteET (by omega) ?_ | refine iteEF (by omega) ?_ | refine iteENT (by omega) ?_ | refine iteENF (by omega) ?_ | refine iteDT (by omega) ?_ | refine iteDF (by omega) ?_ | refine iteNT (by omega) ?_ | refine iteNF (by omega) ?_) | refine ⟨_, rfl, ?_⟩ | refine ⟨_, _, rfl, rfl, ?_⟩ | refine ⟨_, _, rfl, ?_⟩ | refine ⟨rfl, ?_⟩ | refine .inl ⟨_, rfl, ?_⟩ | refine .inr ⟨_, rfl, ?_⟩))
local macro_rules | `(tactic| walk_at "b") => `(tactic| try dsimp (config := { proj := false, iota := false, eta := false, zeta := false }) only)
section
variable {P : Program} {w : World} {K : PySem.W.Frag} {mg : Str → Option Value} {base : Heap} [pf : Sup.PF P fileS]
def sp_samples_of (K : PySem.W.Frag) : Sp := fun vs H Q _ => ∃ (a : Addr) (S : List Int) (t : Int), vs = [.ref a, .int t] ∧ SqL K H a (S.map V.int) ∧ 0 < S.length ∧ S.length ≤ 60 ∧ ∀ H' p, Same H H' → H p = none → H' p = some (.lst ((sLens S t).map V.int)) → Q (.ref p) H'
theorem G_samples_of (T : Top K mg) : FnOk P w K mg base CX0 1 T.f_samples_of T.fd_samples_of ["starts", "total"] (sp_samples_of K) := by
  refine T.F_samples_of.ok sc_samples_of (fun vs H Q E h => by obtain ⟨a, S, t, rfl, _⟩ := h; rfl) (fun cdv A outer s H vs Q E hr h => ?_)
  obtain ⟨a, S, t, rfl, hS, hl0, hl, q⟩ := h
  refine ⟨_, PSs.nox (pss_one (ps_ret (pe_lc (own := [("start", 2), ("behind", 3)]) (g := gTup K 2 (gCons (gName 2) (gCons (gName 3) (gNil)))) (tt := tYes) (by rfl) sc_samples_of.nd (k_piZL K rfl (by rfl) T.n_zip (pa_cons (pv 0) (pa_cons (pe_op op_cat (pe_slice (k_slL K rfl) (pv 0) (po_some pe_int) po_none) (pe_lst (pa_cons (pv 1) pa_nil))) pa_nil)) (pk_cons pe_bl pk_nil)) (blkOk_by (own := [("start", 2), ("behind", 3)]) (N := N_samples_of) (sc := defScope s_samples_of) (by decide +kernel)) (fun _ _ _ _ _ => (k_pgT K rfl (by rfl) (pgs_cons (pg_name (i := 2) sc_samples_of.nd rfl (by first | exact Or.inl rfl | exact Or.inr rfl)) (pgs_cons (pg_name (i := 3) sc_samples_of.nd rfl (by first | exact Or.inl rfl | exact Or.inr rfl)) pgs_nil)))) (fun _ _ _ _ _ => pts_nil) (fun _ _ _ _ _ => (pe_op op_sub (pv 3) (pv 2)))))), ?_⟩
  refine ⟨_, rfl, _, rfl, _, rfl, a, _, rfl, hS, fun c nc => ?_⟩
  rw [show (some (1 : Int)) = some ((1 : Nat) : Int) from rfl, cut_drop, ← List.map_drop]
  obtain ⟨H1, e1, s1, hc⟩ := fresh (.lst ((S.drop 1).map V.int)) nc
  rw [e1]
  refine ⟨_, rfl, (show 1 ≤ sizeLine by decide), fun c2 nc2 => ?_⟩
  obtain ⟨H2, e2, s2, hc2⟩ := fresh (.lst [V.int t]) nc2
  rw [e2]
  refine ⟨c, c2, _, _, rfl, rfl, s2 _ _ hc, hc2, by rw [List.length_map, List.length_drop, sizeLine_eq]; show _ + 1 ≤ _; omega, fun c3 nc3 => ?_⟩
  obtain ⟨H3, e3, s3, hc3⟩ := fresh (.lst ((endsL S t).map V.int)) nc3
  rw [show upd H2 c3 (.lst ((S.drop 1).map V.int ++ [V.int t])) = H3 by rw [← e3]; unfold endsL; rw [List.map_append]; rfl]
  have s03 := (s1.trans s2).trans s3
  have hC3 : SqL K H3 c3 ((endsL S t).map V.int) := .inl (.inl hc3)
  have hS3 := s03.seq hS
  have hel := ends_len (t := t) hl0
  have hsl := sLens_len (t := t) hl0
  refine ⟨rfl, a, c3, _, _, rfl, hS3, hC3, fun D nD => ?_⟩
  refine lc_dW (walk_zl (K := K) (a := a) (b := c3) (xs := S.map V.int) (ys := (endsL S t).map V.int) (by rw [List.length_map, List.length_map, hel])) (S := []) Has.nil ((sLens S t).map fun x => some (PyData.int x)) nD (by rw [List.length_map, List.length_map, hsl]) (by rw [List.length_map]; exact small4 (by omega)) (fun H' s => ⟨s.seq hS3, s.seq hC3⟩) ?_ ?_
  · rintro j o H0 x H'' hj ho s0 hH ⟨T1, x1, y1, rfl, nT, rfl, e1, e2⟩ Qt qt
    have st := same_upd (o := .tup [x1, y1]) nT
    obtain ⟨n1, en1, rfl⟩ := int_at e1
    obtain ⟨n2, en2, rfl⟩ := int_at e2
    have hjl : j < S.length := (List.getElem?_eq_some_iff.mp en1).1
    have eo : o = some (PyData.int (n2 - n1)) := by
      rw [ends_at hjl] at en2
      rw [List.getElem?_map, sLens_at hjl] at ho
      rw [← Option.some.inj en2, show n1 = S.getD j 0 by rw [List.getD_eq_getElem?_getD, en1]; rfl]
      exact (Option.some.inj ho).symm
    subst eo
    refine ⟨T1, _, rfl, .inl (.inl upd_same), rfl, ?_⟩
    generalize upd H0 T1 (.tup [V.int n1, V.int n2]) = H8 at st
    refine ⟨_, _, rfl, _, _, rfl, rfl, ⟨rfl, ?_⟩⟩
    refine ⟨_, rfl, _, rfl, _, _, rfl, rfl, ?_⟩
    exact qt _ _ st (.int _)
  · intro H7 s7 _ dD
    have el : ((sLens S t).map fun x => some (PyData.int x)).filterMap id = (sLens S t).map PyData.int := sel_map _ _
    rw [el, rs_nil] at dD
    obtain ⟨_, e, hD⟩ := Dt.intsE (ns := sLens S t) dD
    cases e
    exact q _ D (s03.trans s7) (s03.free nD) hD
def sp_runs_of (K : PySem.W.Frag) : Sp := fun vs H Q _ => ∃ (a : Addr) (S : List Int) (t step : Int), vs = [.ref a, .int t, .int step] ∧ SqL K H a (S.map V.int) ∧ 0 < S.length ∧ S.length ≤ 60 ∧ ∀ H' p, Same H H' → H p = none → PrsAt H' p ((runsG t step S 0 (S.getD 0 0) 0).map prI) → Q (.ref p) H'
theorem G_runs_of (T : Top K mg) : FnOk P w K mg base CX0 1 T.f_runs_of T.fd_runs_of ["starts", "total", "step"] (sp_runs_of K) := by
  refine T.F_runs_of.ok sc_runs_of (fun vs H Q E h => by obtain ⟨a, S, t, step, rfl, _⟩ := h; rfl) (fun cdv A outer s H vs Q E hr h => ?_)
  obtain ⟨a, S, t, step, rfl, hS, hl0, hl, q⟩ := h
  refine ⟨_, PSs.nox (pss_cons (ps_par3 (by rfl) sc_runs_of.nd (i := 4) (j := 5) (l := 6) rfl rfl rfl (by decide) (by decide) (by decide) rfl rfl rfl (pa_cons (pe_op op_cat (pe_slice (k_slL K rfl) (pv 0) (po_some pe_int) po_none) (pe_lst (pa_cons (pv 1) pa_nil))) (pa_cons (pe_lst pa_nil) (pa_cons pe_int pa_nil))) (by rfl))
  (pss_cons (ps_for PassesOwn.never rfl (pi_range1 (by rfl) T.n_range (pa_cons (pe_callB (k_len K rfl) (by rfl) T.n_len (by decide +kernel) (pa_cons (pv 0) pa_nil)) pa_nil)) (pg_name (i := 3) sc_runs_of.nd rfl (by first | exact Or.inl rfl | exact Or.inr rfl))
    (pss_one (ps_if (pt_cmpR op_ge (pe_op op_sub (pe_ix (k_ixL K rfl) (pv 4) (pv 3) (fun _ _ => rfl)) (pe_ix (k_ixL K rfl) (pv 0) (pv 6) (fun _ _ => rfl))) (pv 2) (nomark _))
    (pss_cons (ps_expr (pe_bm PySem.F.plainAttrs_list PySem.F.slot_list_append PySem.F.type_list_append mt_append (pv 5) (pa_cons (pe_tup (pa_cons (pv 6) (pa_cons (pv 3) pa_nil))) pa_nil)))
  (pss_one (ps_set (i := 6) sc_runs_of.nd rfl (by first | exact Or.inl rfl | exact Or.inr rfl) (pv 3))))
    pss_nil)))
  (pss_one (ps_ret (pv 5))))), ?_⟩
  refine ⟨_, rfl, _, rfl, a, _, rfl, hS, fun c nc => ?_⟩
  rw [show (some (1 : Int)) = some ((1 : Nat) : Int) from rfl, cut_drop, ← List.map_drop]
  obtain ⟨H1, e1, s1, hc⟩ := fresh (.lst ((S.drop 1).map V.int)) nc
  rw [e1]
  refine ⟨_, rfl, (show 1 ≤ sizeLine by decide), fun c2 nc2 => ?_⟩
  obtain ⟨H2, e2, s2, hc2⟩ := fresh (.lst [V.int t]) nc2
  rw [e2]
  refine ⟨c, c2, _, _, rfl, rfl, s2 _ _ hc, hc2, by rw [List.length_map, List.length_drop, sizeLine_eq]; show _ + 1 ≤ _; omega, fun c3 nc3 => ?_⟩
  obtain ⟨H3, e3, s3, hc3⟩ := fresh (.lst ((endsL S t).map V.int)) nc3
  rw [show upd H2 c3 (.lst ((S.drop 1).map V.int ++ [V.int t])) = H3 by rw [← e3]; unfold endsL; rw [List.map_append]; rfl]
  have s03 := (s1.trans s2).trans s3
  refine ⟨Nat.zero_le _, fun p np => ?_⟩
  obtain ⟨H4, e4, s4, hp⟩ := fresh (.lst []) np
  rw [e4]
  have nHp : H p = none := s03.free np
  have ncp : c3 ≠ p := ne_of_none hc3 np
  refine ⟨_, _, _, rfl, ?_⟩
  have hml : (S.map V.int).length = S.length := List.length_map _
  refine ⟨_, rfl, a, _, rfl, .inl ((s03.trans s4).seq hS), _, rfl, by omega, by omega, ?_⟩
  rw [List.length_map, Int.toNat_natCast]
  have hel := ends_len (t := t) hl0
  refine for_range (lo := 0) (n := S.length) (fun h σ H5 => ∃ (v3 : Option V) (low : Nat) (dn : List (Nat × Nat)), σ = [some (.ref a), some (.int t), some (.int step), v3, some (.ref c3), some (.ref p), some (.int low)] ∧ Same H H5 ∧ H5 c3 = some (.lst ((endsL S t).map V.int)) ∧ PrsAt H5 p (dn.map prI) ∧ low < S.length ∧ dn.length ≤ h ∧ dn ++ runsG t step (S.drop h) low (S.getD low 0) h = runsG t step S 0 (S.getD 0 0) 0)
    ⟨none, 0, [], rfl, s03.trans s4, s4 _ _ hc3, ⟨[], hp, rfl, fun k t q a => by simp at a⟩, hl0, Nat.le_refl _, rfl⟩ ?_ ?_
  · rintro h σ H5 hh ⟨v3, low, dn, rfl, s5, hc5, hP, hlow, hdl, hrun⟩
    have hix : (0 : Int) + (h : Int) = ((h : Nat) : Int) := by omega
    have hS5 := s5.seq hS
    refine ⟨_, rfl, _, rfl, c3, _, _, .int (endF S t h), rfl, rfl, .inl (.inl hc5), at_of hix (by rw [List.getElem?_map, ends_at hh]; rfl), ?_⟩
    refine ⟨_, rfl, _, rfl, a, _, _, .int (S.getD low 0), rfl, rfl, hS5, at_int rfl hlow, _, _, rfl, rfl, _, rfl, _, _, rfl, rfl, _, rfl, ?_⟩
    rw [drop_get hh] at hrun
    have hstep : runsG t step (S.getD h 0 :: S.drop (h + 1)) low (S.getD low 0) h = if endF S t h - S.getD low 0 ≥ step then (low, h) :: runsG t step (S.drop (h + 1)) h (S.getD h 0) (h + 1) else runsG t step (S.drop (h + 1)) low (S.getD low 0) (h + 1) := rfl
    rw [hstep] at hrun
    by_cases c : endF S t h - S.getD low 0 ≥ step
    · rw [if_pos c] at hrun
      rw [decide_eq_true c]
      refine iteT ?_
      obtain ⟨ts, hts, htl, _⟩ := id hP
      refine ⟨_, rfl, .inl ⟨rfl, _, .inl (.inl hts)⟩, _, rfl, _, rfl, (show 2 ≤ sizeLine by decide), fun t2 nt2 => ?_⟩
      obtain ⟨H6, e6, s6, ht2⟩ := fresh (.tup [V.int (low : Nat), V.int (0 + (h : Int))]) nt2
      rw [e6]
      have ntp : t2 ≠ p := (ne_of_none hts nt2).symm
      refine ⟨p, _, _, rfl, rfl, s6 _ _ hts, by rw [List.length_map, htl, List.length_map]; exact small4 (by omega), ?_⟩
      refine ⟨_, rfl, some (.int (0 + (h : Int))), h, dn ++ [(low, h)], ?_, same_over nHp (s5.trans s6), by rw [upd_ne ncp]; exact s6 _ _ hc5, ?_, hh, by rw [List.length_append, List.length_singleton]; omega, by rw [List.append_assoc]; exact hrun⟩
      · rw [hix]
        rfl
      · rw [List.map_append]
        refine PrsAt.more (t := t2) (H := H5) hP nt2 (fun b o nb nb2 hb => by rw [upd_ne nb]; exact s6 _ _ hb) ?_ fun ts2 h2 => ?_
        · rw [upd_ne ntp, ht2, hix]
          rfl
        · rw [upd_same]
          rw [hts] at h2
          have e := Option.some.inj h2
          have e2 : ts.map V.ref = ts2.map V.ref := by injection e
          rw [e2]
    · rw [if_neg c] at hrun
      rw [decide_eq_false c]
      exact iteF ⟨_, low, dn, rfl, s5, hc5, hP, hlow, by omega, hrun⟩
  · rintro σ H5 ⟨v3, low, dn, rfl, s5, hc5, hP, hlow, hdl, hrun⟩
    rw [List.drop_of_length_le (Nat.le_refl _)] at hrun
    have e : dn = runsG t step S 0 (S.getD 0 0) 0 := by
      rw [← hrun]
      exact (List.append_nil dn).symm
    rw [e] at hP
    exact ⟨_, rfl, q _ p s5 nHp hP⟩
end
end My

namespace My
open PySem PySem.Spec PyProof.Rows L2 Pre
/-! ### papers -/
/-- what is no tuple -/
def NoT (K : PySem.W.Frag) (H : Hp) (v : V) : Prop := ∃ T : String, TyX K H v (.type T) ∧ kitB T "tuple" = some false
theorem NoT.same {K : PySem.W.Frag} {H H' : Hp} {v : V} (s : Same H H') (h : NoT K H v) : NoT K H' v := by
  obtain ⟨T, ty, e⟩ := h
  exact ⟨T, ty.same s, e⟩
def NoStr (K : PySem.W.Frag) (H : Hp) (v : V) : Prop := ∃ T : String, TyX K H v (.type T) ∧ kitB T "str" = some false
theorem NoStr.same {K : PySem.W.Frag} {H H' : Hp} {v : V} (s : Same H H') (h : NoStr K H v) : NoStr K H' v := by
  obtain ⟨T, ty, e⟩ := h
  exact ⟨T, ty.same s, e⟩
theorem end_at {S : List Int} {t : Int} {j : Nat} {z : Int} (e : z = (j : Int)) (h : j < S.length) : atI ((endsL S t).map V.int) z = some (.int (endF S t j)) := at_of e (by rw [List.getElem?_map, ends_at h]; rfl)
theorem flat_ints : ∀ ns : List Int, (ns.map V.int).all flatV = true
  | [] => rfl
  | n :: r => by rw [List.map_cons, List.all_cons, flat_ints r]; rfl
theorem inV_ints (x : Int) : ∀ ns : List Int, inV (.int x) (ns.map V.int) = decide (x ∈ ns)
  | [] => rfl
  | n :: r => by
    have ih := inV_ints x r
    unfold inV at ih ⊢
    rw [List.map_cons, List.any_cons, ih]
    by_cases c : n = x
    · subst c
      rw [decide_eq_true (List.mem_cons_self)]
      simp [eqV]
    · by_cases c2 : x ∈ r
      · rw [decide_eq_true c2, decide_eq_true (List.mem_cons_of_mem _ c2)]
        simp
      · rw [decide_eq_false c2, decide_eq_false (fun z => by rcases List.mem_cons.mp z with z | z; exact c z.symm; exact c2 z)]
        simp [eqV, c]
def RunV (K : PySem.W.Frag) (H : Hp) (v : V) (S : List Int) (t step : Int) (b : Bool) : Prop := (NoT K H v ∧ b = false) ∨ ∃ (p : Addr) (x y : Int), v = .ref p ∧ H p = some (.tup [.int x, .int y]) ∧ (b = true ↔ RunOk S t step (x, y))
local macro_rules | `(tactic| walk_at "go") => `(tactic| repeat (first | (with_reducible first | refine iteT ?_ | refine iteF ?_ | refine iteNtt ?_ | refine iteNff ?_ | refine iteET (by omega) ?_ | refine iteEF (by omega) ?_ | refine iteENT (by omega) ?_ | refine iteENF (by omega) ?_ | refine iteDT (by omega) ?_ | refine iteDF (by omega) ?_ | refine iteNT (by omega) ?_ | refine iteNF (by omega) ?_) | refine ⟨_, rfl, ?_⟩ | refine ⟨_, _, rfl, rfl, ?_⟩ | refine ⟨_, _, rfl, ?_⟩ | refine ⟨rfl, ?_⟩ | refine .inl ⟨_, rfl, ?_⟩ | refine .inr ⟨_, rfl, ?_⟩))
local macro_rules | `(tactic| walk_at "b") => `(tactic| try dsimp (config := { proj := false, iota := false, eta := false, zeta := false }) only)
section
variable {P : Program} {w : World} {K : PySem.W.Frag} {mg : Str → Option Value} {base : Heap} [pf : Sup.PF P fileS]
def sp_is_run (K : PySem.W.Frag) : Sp := fun vs H Q _ => ∃ (a : Addr) (S : List Int) (t step : Int) (v : V) (b : Bool), vs = [.ref a, .int t, .int step, v] ∧ SqL K H a (S.map V.int) ∧ 0 < S.length ∧ S.length ≤ 60 ∧ RunV K H v S t step b ∧ ∀ H', Same H H' → Q (.bl b) H'
theorem G_is_run (T : Top K mg) : FnOk P w K mg base CX0 2 T.f_is_run T.fd_is_run ["starts", "total", "step", "value"] (sp_is_run K) := by
  refine T.F_is_run.ok sc_is_run (fun vs H Q E h => by obtain ⟨a, S, t, step, v, b, rfl, _⟩ := h; rfl) (fun cdv A outer s H vs Q E hr h => ?_)
  obtain ⟨a, S, t, step, v, b, rfl, hS, hl0, hl, hv, q⟩ := h
  refine ⟨_, PSs.nox (pss_cons (ps_if (PW.pt (pw_or (pt_not (pt_val (pe_callB (k_isi K rfl) (by rfl) T.n_isinstance (by decide +kernel) (pa_cons (pv 3) (pa_cons (pe_bltn (v := .ty "tuple") (by rfl) T.n_tuple (by decide +kernel) rfl) pa_nil))))) (pw_or (pt_cmpR op_ne (pe_callB (k_len K rfl) (by rfl) T.n_len (by decide +kernel) (pa_cons (pv 3) pa_nil)) pe_int (nomark _)) (pw_or (pt_not (pt_val (pe_call (G_is_whole (P := P) T) (hr.mono (by decide)) (by rfl) T.g_is_whole T.F_is_whole.kp T.b_is_whole .nil pass0 (pa_cons (pe_ix (k_ixT K rfl) (pv 3) pe_int (fun _ _ => rfl)) pa_nil)))) (pw_or1 (pt_not (pt_val (pe_call (G_is_whole (P := P) T) (hr.mono (by decide)) (by rfl) T.g_is_whole T.F_is_whole.kp T.b_is_whole .nil pass0 (pa_cons (pe_ix (k_ixT K rfl) (pv 3) pe_int (fun _ _ => rfl)) pa_nil)))))))))
    (pss_one (ps_ret pe_bl))
    pss_nil)
  (pss_cons (ps_if (pt_not (pt_chain3 op_le op_lt op_lt pe_int (pe_ix (k_ixT K rfl) (pv 3) pe_int (fun _ _ => rfl)) (pe_ix (k_ixT K rfl) (pv 3) pe_int (fun _ _ => rfl)) (pe_callB (k_len K rfl) (by rfl) T.n_len (by decide +kernel) (pa_cons (pv 0) pa_nil))))
    (pss_one (ps_ret pe_bl))
    pss_nil)
  (pss_one (ps_ret (pe_cmpR op_ge (pe_op op_sub (pe_ix (k_ixL K rfl) (pe_op op_cat (pe_slice (k_slL K rfl) (pv 0) (po_some pe_int) po_none) (pe_lst (pa_cons (pv 1) pa_nil))) (pe_ix (k_ixT K rfl) (pv 3) pe_int (fun _ _ => rfl)) (fun _ _ => rfl)) (pe_ix (k_ixL K rfl) (pv 0) (pe_ix (k_ixT K rfl) (pv 3) pe_int (fun _ _ => rfl)) (fun _ _ => rfl))) (pv 2) (nomark _)))))), ?_⟩
  rcases hv with ⟨⟨T, ty, hT⟩, rfl⟩ | ⟨p, x, y, rfl, hp, hb⟩
  · exact ⟨_, rfl, _, _, _, _, false, rfl, .ty _, ty, kit_ty hT, false, rfl, iteT (q _ (Same.refl _))⟩
  · refine ⟨_, rfl, _, _, _, _, true, rfl, .ty _, .base (.tup hp), kit_ty (by decide +kernel), true, rfl, iteF ?_⟩
    have hP : SqT K H p [.int x, .int y] := .inl (.inl hp)
    refine ⟨_, rfl, p, _, rfl, .inr hP, rfl, _, rfl, iteF ?_⟩
    refine ⟨_, rfl, p, _, _, _, rfl, rfl, hP, atI_nat (j := 0) rfl, .int x, rfl, .inl ⟨x, rfl, _, rfl, iteF ?_⟩⟩
    refine ⟨_, rfl, p, _, _, _, rfl, rfl, hP, atI_nat (j := 1) rfl, .int y, rfl, .inl ⟨y, rfl, _, rfl, iteF ?_⟩⟩
    refine ⟨_, rfl, p, _, _, _, rfl, rfl, hP, atI_nat (j := 0) rfl, _, _, rfl, rfl, _, rfl, ?_⟩
    have fals : ¬ RunOk S t step (x, y) → b = false := fun h => by
      cases b with
      | false => rfl
      | true => exact absurd (hb.mp rfl) h
    by_cases c1 : 0 ≤ x
    rotate_left
    · rw [fals fun z => c1 z.1] at q
      rw [decide_eq_false c1]
      exact iteF ⟨_, rfl, iteT (q _ (Same.refl _))⟩
    rw [decide_eq_true c1]
    refine iteT ⟨_, rfl, p, _, _, _, rfl, rfl, hP, atI_nat (j := 1) rfl, _, _, rfl, rfl, _, rfl, ?_⟩
    by_cases c2 : x < y
    rotate_left
    · rw [fals fun z => c2 z.2.1] at q
      rw [decide_eq_false c2]
      exact iteF ⟨_, rfl, iteT (q _ (Same.refl _))⟩
    rw [decide_eq_true c2]
    refine iteT ⟨_, rfl, a, _, rfl, .inl hS, _, _, rfl, rfl, _, rfl, ?_⟩
    rw [List.length_map]
    by_cases c3 : y < (S.length : Int)
    rotate_left
    · rw [fals fun z => c3 z.2.2.1] at q
      rw [decide_eq_false c3]
      exact iteT (q _ (Same.refl _))
    rw [decide_eq_true c3]
    refine iteF ?_
    refine ⟨_, rfl, _, rfl, a, _, rfl, hS, fun c nc => ?_⟩
    rw [show (some (1 : Int)) = some ((1 : Nat) : Int) from rfl, cut_drop, ← List.map_drop]
    obtain ⟨H1, e1, s1, hc⟩ := fresh (.lst ((S.drop 1).map V.int)) nc
    rw [e1]
    refine ⟨_, rfl, (show 1 ≤ sizeLine by decide), fun k2 nk2 => ?_⟩
    obtain ⟨H2, e2, s2, hk2⟩ := fresh (.lst [V.int t]) nk2
    rw [e2]
    refine ⟨c, k2, _, _, rfl, rfl, s2 _ _ hc, hk2, by rw [List.length_map, List.length_drop, sizeLine_eq]; show _ + 1 ≤ _; omega, fun k3 nk3 => ?_⟩
    obtain ⟨H3, e3, s3, hk3⟩ := fresh (.lst ((endsL S t).map V.int)) nk3
    rw [show upd H2 k3 (.lst ((S.drop 1).map V.int ++ [V.int t])) = H3 by rw [← e3]; unfold endsL; rw [List.map_append]; rfl]
    have s03 := (s1.trans s2).trans s3
    have hP3 : SqT K H3 p [.int x, .int y] := .inl (.inl (s03 _ _ hp))
    have ey : y = ((y.toNat : Nat) : Int) := by omega
    have ex : x = ((x.toNat : Nat) : Int) := by omega
    refine ⟨_, rfl, p, _, _, _, rfl, rfl, hP3, atI_nat (j := 1) rfl, ?_⟩
    refine ⟨k3, _, _, _, rfl, rfl, .inl (.inl hk3), end_at ey (by omega), ?_⟩
    refine ⟨_, rfl, _, rfl, p, _, _, _, rfl, rfl, hP3, atI_nat (j := 0) rfl, ?_⟩
    refine ⟨a, _, _, _, rfl, rfl, s03.seq hS, at_int ex (by omega), _, _, rfl, rfl, _, rfl, _, _, rfl, rfl, ?_⟩
    have eb : b = decide (endF S t y.toNat - S.getD x.toNat 0 ≥ step) := by
      rw [Bool.eq_iff_iff, hb, decide_eq_true_eq]
      exact ⟨fun z => z.2.2.2, fun z => ⟨c1, c2, c3, z⟩⟩
    have q' := q H3 s03
    rw [eb] at q'
    exact q'
/-- a paper told -/
def PaperAt (H : Hp) (p : Addr) (S : List Int) (t L : Int) (m : Nat) : Prop := (∃ j : Nat, H p = some (.tup [.str "one", .int (j : Nat)]) ∧ (sLens S t)[j]? = some L) ∨ (L ∉ sLens S t ∧ ∃ pr, H p = some (.tup [.str "runs", .ref pr]) ∧ PrsAt H pr (runsI t L (S.drop 1) m))
def sp_table_paper (K : PySem.W.Frag) (CS CN : Addr) : Sp := fun vs H Q E => ∃ v tv mv : V, vs = [v, tv, mv] ∧ StartsV K H E CS CN v tv mv fun _ S => ∃ (t : Int) (m : Nat), tv = .int t ∧ mv = .int m ∧ lastI S < t ∧ 1 ≤ m ∧ m ≤ S.length ∧ ∀ L, bst t 0 (S.drop 1) (m - 1) = some L → ∀ H' p, Same H H' → H p = none → PaperAt H' p S t L m → Q (.ref p) H'
theorem G_table_paper (T : Top K mg) : FnOk P w K mg base (L2.CX P w) 6 T.f_table_paper T.fd_table_paper ["starts", "total", "many"] (sp_table_paper K T.C_InvalidStarts T.C_InvalidNumber) := by
  refine T.F_table_paper.ok (CX := L2.CX P w) sc_table_paper (fun vs H Q E h => by obtain ⟨v, tv, mv, rfl, _⟩ := h; rfl) (fun cdv A outer s H vs Q E hr h => ?_)
  obtain ⟨v, tv, mv, rfl, h⟩ := h
  refine ⟨_, (pss_cons (ps_set (i := 3) sc_table_paper.nd rfl (by first | exact Or.inl rfl | exact Or.inr rfl) (pe_call (G_least_step (P := P) T) (hr.mono (by decide)) (by rfl) T.g_least_step T.F_least_step.kp T.b_least_step .nil (passes_call (takes_of rfl rfl rfl rfl) (fun _ _ _ _ h => h)) (pa_cons (pv 0) (pa_cons (pv 1) (pa_cons (pv 2) pa_nil)))))
  (pss_cons (ps_set (i := 4) sc_table_paper.nd rfl (by first | exact Or.inl rfl | exact Or.inr rfl) (pe_call (G_samples_of (P := P) T) (hr.mono (by decide)) (by rfl) T.g_samples_of T.F_samples_of.kp T.b_samples_of .nil pass0 (pa_cons (pv 0) (pa_cons (pv 1) pa_nil))))
  (pss_cons (ps_if (pt_cmpR (k_in K rfl) (pv 3) (pv 4) (by rfl))
    (pss_one (ps_ret (pe_tup (pa_cons pe_str (pa_cons (pe_bm PySem.F.plainAttrs_list PySem.F.slot_list_index PySem.F.type_list_index (k_index K rfl) (pv 4) (pa_cons (pv 3) pa_nil)) pa_nil)))))
    pss_nil)
  (pss_one (ps_ret (pe_tup (pa_cons pe_str (pa_cons (pe_slice (k_slL K rfl) (pe_call (G_runs_of (P := P) T) (hr.mono (by decide)) (by rfl) T.g_runs_of T.F_runs_of.kp T.b_runs_of .nil pass0 (pa_cons (pv 0) (pa_cons (pv 1) (pa_cons (pv 3) pa_nil)))) po_none (po_some (pv 2))) pa_nil)))))))), ?_⟩
  refine ⟨_, rfl, _, rfl, _, rfl, v, tv, mv, rfl, h.mono fun a S ev ha hg hq => ?_⟩
  obtain ⟨t, m, rfl, rfl, ht, hm1, hm2, q⟩ := hq
  subst ev
  refine ⟨t, m, rfl, rfl, ht, hm1, hm2, fun H1 L s1 hL => ?_⟩
  have hS : SqL K H1 a (S.map V.int) := .inl (.inl (s1 _ _ ha))
  have hl := hg.1
  obtain ⟨z0, z1⟩ := hg.at0
  refine ⟨_, rfl, _, rfl, a, S, t, rfl, hS, z1, hl, fun H2 p2 s2 np2 hp2 => ?_⟩
  have hP2 : SqL K H2 p2 ((sLens S t).map V.int) := .inl (.inl hp2)
  refine ⟨_, rfl, _, rfl, p2, _, rfl, .inl hP2, rfl, flat_ints _, _, rfl, ?_⟩
  have s12 := s1.trans s2
  show if inV (.int L) ((sLens S t).map V.int) = true then _ else _
  rw [inV_ints]
  by_cases c : L ∈ sLens S t
  · rw [decide_eq_true c]
    refine iteT ?_
    obtain ⟨j, hj, hfirst⟩ : ∃ j : Nat, (sLens S t)[j]? = some L ∧ ∀ i : Nat, i < j → (sLens S t)[i]? ≠ some L := by
      have key : ∀ ns : List Int, L ∈ ns → ∃ j : Nat, ns[j]? = some L ∧ ∀ i : Nat, i < j → ns[i]? ≠ some L := by
        intro ns
        induction ns with
        | nil => intro h; cases h
        | cons n r ih =>
          intro h
          by_cases e : n = L
          · exact ⟨0, by rw [e]; rfl, fun i hi => absurd hi (Nat.not_lt_zero i)⟩
          · rcases List.mem_cons.mp h with h | h
            · exact absurd h.symm e
            · obtain ⟨j, h1, h2⟩ := ih h
              refine ⟨j + 1, h1, fun i hi => ?_⟩
              cases i with
              | zero => intro z; exact e (Option.some.inj z)
              | succ i => exact h2 i (by omega)
      exact key _ c
    refine ⟨_, rfl, .inl ⟨rfl, _, hP2⟩, _, rfl, p2, _, .int L, j, .int L, rfl, rfl, hP2, rfl, flat_ints _, by rw [List.getElem?_map, hj]; rfl, by simp [eqV], fun i z' hi hz' => ?_, (show 2 ≤ sizeLine by decide), fun p np => ?_⟩
    · obtain ⟨n, hn, rfl⟩ := int_at hz'
      have : n ≠ L := fun e => hfirst i hi (by rw [hn, e])
      simp [eqV, this]
    · exact q L hL _ p (s12.trans (same_upd np)) (s12.free np) (.inl ⟨j, upd_same, hj⟩)
  · rw [decide_eq_false c]
    refine iteF ?_
    refine ⟨_, rfl, _, rfl, _, rfl, a, S, t, L, rfl, s2.seq hS, z1, hl, fun H3 p3 s3 np3 hP3 => ?_⟩
    obtain ⟨ts, h1, h2, h3⟩ := hP3
    have erun : runsI t L (S.drop 1) m = ((runsG t L S 0 (S.getD 0 0) 0).map prI).take m := by
      obtain ⟨_, _, r, rfl⟩ := hg
      unfold runsI
      rw [← List.map_take]
      rfl
    refine ⟨_, rfl, _, rfl, p3, _, rfl, .inl (.inl h1), fun p4 np4 => ?_⟩
    rw [cut_take, ← List.map_take]
    obtain ⟨H4, e4, s4, hp4⟩ := fresh (.lst ((ts.take m).map V.ref)) np4
    rw [e4]
    have s14 := (s12.trans s3).trans s4
    refine ⟨(show 2 ≤ sizeLine by decide), fun p np => ?_⟩
    refine q L hL _ p (s14.trans (same_upd np)) (s14.free np) (.inr ⟨c, p4, upd_same, ts.take m, same_upd np _ _ hp4, ?_, fun k t' x a1 a2 => ?_⟩)
    · rw [erun, List.length_take, List.length_take, h2]
    · rw [erun] at a2
      have hk : k < m := by
        have := (List.getElem?_eq_some_iff.mp a1).1
        rw [List.length_take] at this
        omega
      rw [List.getElem?_take, if_pos hk] at a1 a2
      exact same_upd np _ _ (s4 _ _ (h3 k t' x a1 a2))
end
end My

namespace My
open PySem PySem.Spec PyProof.Rows L2 Pre
/-! ### papers judged -/
instance (S : List Int) (t step : Int) (p : Int × Int) : Decidable (RunOk S t step p) := by unfold RunOk; infer_instance
/-- a thing that can be shown in a list -/
def Small (K : PySem.W.Frag) (H : Hp) (x : V) : Prop := ∃ d, Dp K H x d ∧ PyData.canLay0 d = true ∧ PyData.depth d ≤ 3
theorem Small.same {K : PySem.W.Frag} {H H' : Hp} {x : V} (s : Same H H') (h : Small K H x) : Small K H' x := by
  obtain ⟨d, h1, h2⟩ := h
  exact ⟨d, Pre.dp_same s _ _ h1, h2⟩
theorem small_data {K : PySem.W.Frag} {H : Hp} : ∀ xs : List V, (∀ x ∈ xs, Small K H x) → ∃ ds, DpAll K H xs ds ∧ PyData.canLayAll0 ds = true ∧ PyData.depthAll ds ≤ 3 ∧ ds.length = xs.length
  | [], _ => ⟨[], .nil, rfl, by rw [PyData.depthAll]; decide, rfl⟩
  | x :: r, h => by
    obtain ⟨ds, h1, h2, h3, h4⟩ := small_data r fun y hy => h y (List.mem_cons_of_mem _ hy)
    obtain ⟨d, e, f, g⟩ := h x List.mem_cons_self
    exact ⟨d :: ds, .cons e h1, by rw [PyData.canLayAll0, h2, f]; rfl, by rw [PyData.depthAll]; omega, by rw [List.length_cons, List.length_cons, h4]⟩
/-- != [] -/
theorem ne_nil {K : PySem.W.Frag} {H : Hp} {a b : Addr} {xs : List V} {Q : V → Hp → Prop} (ha : H a = some (.lst xs)) (hs : ∀ x ∈ xs, Small K H x) (hb : H b = some (.lst [])) (q : Q (.bl (!decide (xs = []))) H) : rNeD K (.ref a) (.ref b) H Q := by
  obtain ⟨ds, h1, h2, h3, h4⟩ := small_data xs hs
  have sh : SeqAt.shaped (.list ds) = true := by
    unfold SeqAt.shaped
    rw [PyData.canLay0, h2, PyData.depth, Bool.true_and]
    exact decide_eq_true (by omega)
  refine ⟨.list ds, .list [], .lst (.inl (.inl ha)) h1, .lst (.inl (.inl hb)) .nil, sh, rfl, ?_⟩
  have ee : PyData.eqv (.list ds) (.list []) = decide (xs = []) := by
    cases xs with
    | nil =>
      cases ds with
      | nil => rfl
      | cons d r => cases h4
    | cons x r =>
      cases ds with
      | nil => cases h4
      | cons d r => rfl
  rw [ee]
  exact q
theorem pair_small {K : PySem.W.Frag} {H : Hp} {p : Addr} {x y : Int} (h : H p = some (.tup [.int x, .int y])) : Small K H (.ref p) := ⟨.tuple [.int x, .int y], .tup (.inl (.inl h)) (.cons (.int x) (.cons (.int y) .nil)), rfl, by simp only [PyData.depth, PyData.depthAll]; decide⟩
def adjAt (ps : List (Int × Int)) : List Int := ((List.range (ps.length - 1)).filter fun i => decide ((ps.getD (i + 1) (0, 0)).1 < (ps.getD i (0, 0)).2)).map fun (i : Nat) => 1 + (i : Int)
theorem runs_dec {S : List Int} {t step : Int} {m : Nat} {ps : List (Int × Int)} (hl : ps.length = m) (ha : ∀ p ∈ ps, RunOk S t step p) : RunsOk S t step m ps ↔ adjAt ps = [] := by
  unfold adjAt
  rw [List.map_eq_nil_iff, List.filter_eq_nil_iff]
  constructor
  · intro h i hi
    have hi := List.mem_range.mp hi
    have h1 : ps[i + 1]? = some ps[i + 1] := List.getElem?_eq_getElem (by omega)
    have h2 : ps[i]? = some ps[i] := List.getElem?_eq_getElem (by omega)
    have := (h.2 (i + 1) _ h1).2 ps[i] (by omega) (by rw [Nat.add_sub_cancel]; exact h2)
    rw [decide_eq_true_eq, List.getD_eq_getElem?_getD, List.getD_eq_getElem?_getD, h1, h2]
    show ¬ ps[i + 1].1 < ps[i].2
    omega
  · intro h
    refine ⟨hl, fun i p hp => ⟨ha p (List.mem_of_getElem? hp), fun q hi hq => ?_⟩⟩
    have hil := (List.getElem?_eq_some_iff.mp hp).1
    have := h (i - 1) (List.mem_range.mpr (by omega))
    rw [decide_eq_true_eq, show i - 1 + 1 = i by omega, List.getD_eq_getElem?_getD, List.getD_eq_getElem?_getD, hp, hq] at this
    show q.2 ≤ p.1
    have h3 : ¬ p.1 < q.2 := this
    omega
/-- what a paper is -/
def PaperV (K : PySem.W.Frag) (H : Hp) (v : V) (S : List Int) (t L : Int) (m : Nat) (b : Bool) : Prop :=
  (NoT K H v ∧ b = false) ∨ (∃ (p : Addr) (xs : List V), v = .ref p ∧ H p = some (.tup xs) ∧ xs.length ≠ 2 ∧ xs.length ≤ 10 ∧ b = false) ∨ (∃ (p : Addr) (x y : V), v = .ref p ∧ H p = some (.tup [x, y]) ∧ NoStr K H x ∧ b = false) ∨
  ∃ (p : Addr) (w : Str) (y : V), v = .ref p ∧ H p = some (.tup [.str w, y]) ∧
    ((w = "one" ∧ ((NumV K H y 0 (some ((S.length : Int) - 1)) false ∧ b = false) ∨ ∃ j : Nat, y = .int (j : Nat) ∧ j < S.length ∧ (b = true ↔ endF S t j - S.getD j 0 = L))) ∨
     (w ≠ "one" ∧ w ≠ "runs" ∧ b = false) ∨
     (w = "runs" ∧ ((NoL K H y ∧ b = false) ∨ (∃ (q : Addr) (xs : List V), y = .ref q ∧ H q = some (.lst xs) ∧ xs.length ≤ 100 ∧ (xs.length ≠ m ∨ ∀ x ∈ xs, NoT K H x ∧ Small K H x) ∧ b = false) ∨
        ∃ (q : Addr) (ps : List (Int × Int)), y = .ref q ∧ PrsAt H q ps ∧ ps.length ≤ 100 ∧ (b = true ↔ RunsOk S t L m ps))))
local macro_rules | `(tactic| walk_at "go") => `(tactic| repeat (first | (with_reducible first | refine iteT ?_ | refine iteF ?_ | refine iteNtt ?_ | refine iteNff ?_ | refine iteET (by omega) ?_ | refine iteEF (by omega) ?_ | refine iteENT (by omega) ?_ | refine iteENF (by omega) ?_ | refine iteDT (by omega) ?_ | refine iteDF (by omega) ?_ | refine iteNT (by omega) ?_ | refine iteNF (by omega) ?_) | refine ⟨_, rfl, ?_⟩ | refine ⟨_, _, rfl, rfl, ?_⟩ | refine ⟨_, _, rfl, ?_⟩ | refine ⟨rfl, ?_⟩ | refine .inl ⟨_, rfl, ?_⟩ | refine .inr ⟨_, rfl, ?_⟩))
local macro_rules | `(tactic| walk_at "b") => `(tactic| try dsimp (config := { proj := false, iota := false, eta := false, zeta := false }) only)
section
variable {P : Program} {w : World} {K : PySem.W.Frag} {mg : Str → Option Value} {base : Heap} [pf : Sup.PF P fileS]
def sp_is_table_paper (K : PySem.W.Frag) (CS CN : Addr) : Sp := fun vs H Q E => ∃ v tv mv x : V, vs = [v, tv, mv, x] ∧ StartsV K H E CS CN v tv mv fun _ S => ∃ (t : Int) (m : Nat), tv = .int t ∧ mv = .int m ∧ lastI S < t ∧ 1 ≤ m ∧ m ≤ S.length ∧ ∀ L, bst t 0 (S.drop 1) (m - 1) = some L → ∃ b, PaperV K H x S t L m b ∧ ∀ H', Same H H' → Q (.bl b) H'
theorem G_is_table_paper (T : Top K mg) : FnOk P w K mg base (L2.CX P w) 6 T.f_is_table_paper T.fd_is_table_paper ["starts", "total", "many", "value"] (sp_is_table_paper K T.C_InvalidStarts T.C_InvalidNumber) := by
  refine T.F_is_table_paper.ok (CX := L2.CX P w) sc_is_table_paper (fun vs H Q E h => by obtain ⟨v, tv, mv, x, rfl, _⟩ := h; rfl) (fun cdv A outer s H vs Q E hr h => ?_)
  obtain ⟨v, tv, mv, x, rfl, h⟩ := h
  refine ⟨_, (pss_cons (ps_set (i := 4) sc_is_table_paper.nd rfl (by first | exact Or.inl rfl | exact Or.inr rfl) (pe_call (G_least_step (P := P) T) (hr.mono (by decide)) (by rfl) T.g_least_step T.F_least_step.kp T.b_least_step .nil (passes_call (takes_of rfl rfl rfl rfl) (fun _ _ _ _ h => h)) (pa_cons (pv 0) (pa_cons (pv 1) (pa_cons (pv 2) pa_nil)))))
  (pss_cons (ps_if (PW.pt (pw_or (pt_not (pt_val (pe_callB (k_isi K rfl) (by rfl) T.n_isinstance (by decide +kernel) (pa_cons (pv 3) (pa_cons (pe_bltn (v := .ty "tuple") (by rfl) T.n_tuple (by decide +kernel) rfl) pa_nil))))) (pw_or (pt_cmpR op_ne (pe_callB (k_len K rfl) (by rfl) T.n_len (by decide +kernel) (pa_cons (pv 3) pa_nil)) pe_int (nomark _)) (pw_or1 (pt_not (pt_val (pe_callB (k_isi K rfl) (by rfl) T.n_isinstance (by decide +kernel) (pa_cons (pe_ix (k_ixT K rfl) (pv 3) pe_int (fun _ _ => rfl)) (pa_cons (pe_bltn (v := .ty "str") (by rfl) T.n_str (by decide +kernel) rfl) pa_nil)))))))))
    (pss_one (ps_ret pe_bl))
    pss_nil)
  (pss_cons (ps_asg (pv 3) (k_pgT K rfl (by rfl) (pgs_cons (pg_name (i := 5) sc_is_table_paper.nd rfl (by first | exact Or.inl rfl | exact Or.inr rfl)) (pgs_cons (pg_name (i := 6) sc_is_table_paper.nd rfl (by first | exact Or.inl rfl | exact Or.inr rfl)) pgs_nil))))
  (pss_cons (ps_if (pt_cmpR op_eq (pv 5) pe_str (nomark _))
    (pss_one (ps_ret (pe_and (pe_call (G_is_between (P := P) T) (hr.mono (by decide)) (by rfl) T.g_is_between T.F_is_between.kp T.b_is_between .nil pass0 (pa_cons (pv 6) (pa_cons pe_int (pa_cons (pe_op op_sub (pe_callB (k_len K rfl) (by rfl) T.n_len (by decide +kernel) (pa_cons (pv 0) pa_nil)) pe_int) pa_nil)))) (pe_one (pe_cmpR op_eq (pe_ix (k_ixL K rfl) (pe_call (G_samples_of (P := P) T) (hr.mono (by decide)) (by rfl) T.g_samples_of T.F_samples_of.kp T.b_samples_of .nil pass0 (pa_cons (pv 0) (pa_cons (pv 1) pa_nil))) (pv 6) (fun _ _ => rfl)) (pv 4) (nomark _))))))
    pss_nil)
  (pss_cons (ps_if (PW.pt (pw_or (pt_cmpR op_ne (pv 5) pe_str (nomark _)) (pw_or (pt_not (pt_val (pe_callB (k_isi K rfl) (by rfl) T.n_isinstance (by decide +kernel) (pa_cons (pv 6) (pa_cons (pe_bltn (v := .ty "list") (by rfl) T.n_list (by decide +kernel) rfl) pa_nil))))) (pw_or1 (pt_cmpR op_ne (pe_callB (k_len K rfl) (by rfl) T.n_len (by decide +kernel) (pa_cons (pv 6) pa_nil)) (pv 2) (nomark _))))))
    (pss_one (ps_ret pe_bl))
    pss_nil)
  (pss_cons (ps_if (pt_cmpR (k_neD K rfl hr.units) (pe_lc (own := [("run", 7)]) (g := gName 7) (by rfl) sc_is_table_paper.nd (k_piL K rfl (pv 6)) (blkOk_by (own := [("run", 7)]) (N := N_is_table_paper) (sc := defScope s_is_table_paper) (by decide +kernel)) (fun _ _ _ _ _ => (pg_name (i := 7) sc_is_table_paper.nd rfl (by first | exact Or.inl rfl | exact Or.inr rfl))) (fun _ _ _ _ _ => (pts_one (pt_not (pt_val (pe_call (G_is_run (P := P) T) (hr.mono (by decide)) (by rfl) T.g_is_run T.F_is_run.kp T.b_is_run .nil pass0 (pa_cons (pv 0) (pa_cons (pv 1) (pa_cons (pv 4) (pa_cons (pv 7) pa_nil))))))))) (fun _ _ _ _ _ => (pv 7))) (pe_lst pa_nil) (nomark _))
    (pss_one (ps_ret pe_bl))
    pss_nil)
  (pss_one (ps_ret (pe_cmpR (k_eqD K rfl hr.units) (pe_lc (own := [("at", 8)]) (g := gName 8) (by rfl) sc_is_table_paper.nd (pi_range2 (by rfl) T.n_range (pa_cons pe_int (pa_cons (pv 2) pa_nil))) (blkOk_by (own := [("at", 8)]) (N := N_is_table_paper) (sc := defScope s_is_table_paper) (by decide +kernel)) (fun _ _ _ _ _ => (pg_name (i := 8) sc_is_table_paper.nd rfl (by first | exact Or.inl rfl | exact Or.inr rfl))) (fun _ _ _ _ _ => (pts_one (pt_cmpR op_lt (pe_ix (k_ixT K rfl) (pe_ix (k_ixL K rfl) (pv 6) (pv 8) (fun _ _ => rfl)) pe_int (fun _ _ => rfl)) (pe_ix (k_ixT K rfl) (pe_ix (k_ixL K rfl) (pv 6) (pe_op op_sub (pv 8) pe_int) (fun _ _ => rfl)) pe_int (fun _ _ => rfl)) (nomark _)))) (fun _ _ _ _ _ => (pv 8))) (pe_lst pa_nil) (nomark _)))))))))), ?_⟩
  refine ⟨_, rfl, _, rfl, _, rfl, v, tv, mv, rfl, h.mono fun a S ev ha hg hq => ?_⟩
  obtain ⟨t, m, rfl, rfl, ht, hm1, hm2, q0⟩ := hq
  subst ev
  refine ⟨t, m, rfl, rfl, ht, hm1, hm2, fun H1 L s1 hL => ?_⟩
  have hS : SqL K H1 a (S.map V.int) := .inl (.inl (s1 _ _ ha))
  have hl := hg.1
  obtain ⟨z0, z1⟩ := hg.at0
  obtain ⟨b, hv, q⟩ := q0 L hL
  rcases hv with ⟨⟨T, ty, hT⟩, rfl⟩ | ⟨p, xs, rfl, hp, hxl, hx10, rfl⟩ | ⟨p, x, y, rfl, hp, ⟨T, ty, hT⟩, rfl⟩ | ⟨p, w, y, rfl, hp, hv⟩
  · exact ⟨_, rfl, _, _, _, _, false, rfl, .ty _, ty.same s1, kit_ty hT, false, rfl, iteT (q _ s1)⟩
  · have hp1 := s1 _ _ hp
    refine ⟨_, rfl, _, _, _, _, true, rfl, .ty _, .base (.tup hp1), kit_ty (by decide +kernel), true, rfl, iteF ?_⟩
    refine ⟨_, rfl, p, _, rfl, .inr (.inl (.inl hp1)), rfl, _, rfl, ?_⟩
    rw [decide_eq_false (fun z => hxl (by have := V.int.inj z; omega))]
    exact iteT (q _ s1)
  · have hp1 := s1 _ _ hp
    refine ⟨_, rfl, _, _, _, _, true, rfl, .ty _, .base (.tup hp1), kit_ty (by decide +kernel), true, rfl, iteF ?_⟩
    have hP : SqT K H1 p [x, y] := .inl (.inl hp1)
    refine ⟨_, rfl, p, _, rfl, .inr hP, rfl, _, rfl, iteF ?_⟩
    refine ⟨_, rfl, p, _, _, _, rfl, rfl, hP, atI_nat (j := 0) rfl, ?_⟩
    exact ⟨_, _, _, _, false, rfl, .ty _, ty.same s1, kit_ty hT, false, rfl, iteT (q _ s1)⟩
  · have hp1 := s1 _ _ hp
    refine ⟨_, rfl, _, _, _, _, true, rfl, .ty _, .base (.tup hp1), kit_ty (by decide +kernel), true, rfl, iteF ?_⟩
    have hP : SqT K H1 p [.str w, y] := .inl (.inl hp1)
    refine ⟨_, rfl, p, _, rfl, .inr hP, rfl, _, rfl, iteF ?_⟩
    refine ⟨_, rfl, p, _, _, _, rfl, rfl, hP, atI_nat (j := 0) rfl, ?_⟩
    refine ⟨_, _, _, _, true, rfl, .ty _, .base (.str w), kit_ty (by decide +kernel), true, rfl, iteF ?_⟩
    refine ⟨_, rfl, p, _, rfl, hP, rfl, _, _, rfl, _, _, rfl, rfl, ?_⟩
    refine ⟨_, rfl, rfl, _, rfl, ?_⟩
    rcases hv with ⟨rfl, hv⟩ | ⟨hw1, hw2, rfl⟩ | ⟨rfl, hv⟩
    · rw [decide_eq_true rfl]
      refine iteT ?_
      have hml : (S.map V.int).length = S.length := List.length_map _
      rcases hv with ⟨hn, rfl⟩ | ⟨j, rfl, hj, hb⟩
      · refine ⟨_, rfl, _, rfl, a, _, rfl, .inl hS, _, _, rfl, rfl, y, 0, some ((S.length : Int) - 1), false, by rw [hml]; rfl, hn.same s1, ?_⟩
        exact ⟨_, rfl, iteF (q _ s1)⟩
      · refine ⟨_, rfl, _, rfl, a, _, rfl, .inl hS, _, _, rfl, rfl, .int (j : Nat), 0, some ((S.length : Int) - 1), true, by rw [hml]; rfl, .inl ⟨_, rfl, (decide_eq_true ⟨by omega, fun i h => by cases h; omega⟩).symm⟩, ?_⟩
        refine ⟨_, rfl, iteT ?_⟩
        refine ⟨_, rfl, _, rfl, a, S, t, rfl, hS, z1, hl, fun H2 p2 s2 np2 hp2 => ?_⟩
        refine ⟨_, rfl, p2, _, _, .int (endF S t j - S.getD j 0), rfl, rfl, .inl (.inl hp2), at_of (j := j) rfl (by rw [List.getElem?_map, sLens_at hj]; rfl), _, rfl, rfl, ?_⟩
        have eb : b = decide (V.int (endF S t j - S.getD j 0) = V.int L) := by
          rw [Bool.eq_iff_iff, hb, decide_eq_true_eq]
          exact ⟨fun z => congrArg V.int z, fun z => V.int.inj z⟩
        have q' := q _ (s1.trans s2)
        rw [eb] at q'
        exact q'
    · rw [decide_eq_false (fun z => hw1 (V.str.inj z))]
      refine iteF ?_
      refine ⟨_, rfl, rfl, _, rfl, ?_⟩
      rw [decide_eq_false (fun z => hw2 (V.str.inj z))]
      exact iteT (q _ s1)
    · rw [decide_eq_false (fun z => by have := V.str.inj z; exact absurd this (by decide))]
      refine iteF ?_
      refine ⟨_, rfl, rfl, _, rfl, ?_⟩
      rw [decide_eq_true rfl]
      refine iteF ?_
      rcases hv with ⟨⟨T, ty, hT⟩, rfl⟩ | ⟨pq, xs, rfl, hq, hx100, hx, rfl⟩ | ⟨pq, ps, rfl, hP2, hp100, hb⟩
      · exact ⟨_, rfl, _, _, _, _, false, rfl, .ty _, ty.same s1, kit_ty hT, false, rfl, iteT (q _ s1)⟩
      · have hq1 := s1 _ _ hq
        have hQ : SqL K H1 pq xs := .inl (.inl hq1)
        refine ⟨_, rfl, _, _, _, _, true, rfl, .ty _, .base (.lst hq1), kit_ty (by decide +kernel), true, rfl, iteF ?_⟩
        refine ⟨_, rfl, pq, _, rfl, .inl hQ, _, rfl, rfl, _, rfl, ?_⟩
        by_cases c : xs.length = m
        rotate_left
        · rw [decide_eq_false (fun z => c (by have := V.int.inj z; omega))]
          exact iteT (q _ s1)
        have hx' : ∀ x ∈ xs, NoT K H x ∧ Small K H x := by
          rcases hx with hx | hx
          · exact absurd c hx
          · exact hx
        rw [decide_eq_true (congrArg V.int (show (xs.length : Int) = (m : Int) by omega))]
        refine iteF ?_
        refine ⟨_, rfl, pq, rfl, ⟨_, hQ⟩, fun D nD => ?_⟩
        refine lc_selL (K := K) (xs := xs) (xs.map some) nD hQ (by rw [List.length_map]) (small4 (by omega)) (fun x => rfl) ?_ ?_
        · intro i x o H' hxi ho s Qt qt
          rw [List.getElem?_map, hxi] at ho
          cases ho
          refine ⟨_, rfl, _, rfl, _, rfl, _, rfl, a, S, t, L, x, false, rfl, s.seq hS, z1, hl, .inl ⟨((hx' x (List.mem_of_getElem? hxi)).1.same s1).same s, rfl⟩, fun H2 s2 => ?_⟩
          exact ⟨_, rfl, iteT ⟨_, rfl, qt _ s2⟩⟩
        · intro H2 s2 hD
          have ef : (xs.map some).filterMap id = xs := by
            clear hx hx' hq hq1 hQ hx100 c hD
            induction xs with
            | nil => rfl
            | cons x r ih => rw [List.map_cons, List.filterMap_cons, ih]; rfl
          rw [ef] at hD
          refine ⟨Nat.zero_le _, fun pe npe => ?_⟩
          obtain ⟨H3, e3, s3, hpe⟩ := fresh (.lst []) npe
          rw [e3]
          have s13 := (s1.trans s2).trans s3
          refine ne_nil (s3 _ _ hD) (fun x hxm => (hx' x hxm).2.same s13) hpe ⟨_, rfl, ?_⟩
          rw [decide_eq_false (fun z => by rw [z] at c; simp at c; omega)]
          exact iteT (q _ s13)
      · obtain ⟨ts, h1, h2, h3⟩ := hP2.same s1
        have hQ : SqL K H1 pq (ts.map V.ref) := .inl (.inl h1)
        refine ⟨_, rfl, _, _, _, _, true, rfl, .ty _, .base (.lst h1), kit_ty (by decide +kernel), true, rfl, iteF ?_⟩
        refine ⟨_, rfl, pq, _, rfl, .inl hQ, _, rfl, rfl, _, rfl, ?_⟩
        rw [List.length_map, h2]
        by_cases c : ps.length = m
        rotate_left
        · have : b = false := by
            cases b with
            | false => rfl
            | true => exact absurd (hb.mp rfl).1 c
          subst this
          rw [decide_eq_false (fun z => c (by have := V.int.inj z; omega))]
          exact iteT (q _ s1)
        rw [decide_eq_true (congrArg V.int (show (ps.length : Int) = (m : Int) by omega))]
        refine iteF ?_
        refine ⟨_, rfl, pq, rfl, ⟨_, hQ⟩, fun D nD => ?_⟩
        refine lc_selL (K := K) (xs := ts.map V.ref) ((List.range ts.length).map fun i => if RunOk S t L (ps.getD i (0, 0)) then none else some (V.ref (ts.getD i 0))) nD hQ (by rw [List.length_map, List.length_range, List.length_map]) (by rw [List.length_map]; exact small4 (by omega)) (fun x => rfl) ?_ ?_
        · intro i x o H' hxi ho s Qt qt
          rw [List.getElem?_map] at hxi
          obtain ⟨t', ht', rfl⟩ := Option.map_eq_some_iff.mp hxi
          have hi : i < ts.length := (List.getElem?_eq_some_iff.mp ht').1
          rw [List.getElem?_map, List.getElem?_range hi] at ho
          cases ho
          have hpi : ps[i]? = some (ps.getD i (0, 0)) := by rw [List.getD_eq_getElem?_getD, List.getElem?_eq_getElem (by omega)]; rfl
          have hti : ts.getD i 0 = t' := by rw [List.getD_eq_getElem?_getD, ht']; rfl
          have hcell := s _ _ (h3 i t' _ ht' hpi)
          dsimp only at qt
          refine ⟨_, rfl, _, rfl, _, rfl, _, rfl, a, S, t, L, .ref t', decide (RunOk S t L (ps.getD i (0, 0))), rfl, s.seq hS, z1, hl, .inr ⟨t', _, _, rfl, hcell, by rw [decide_eq_true_eq]⟩, fun H2 s2 => ?_⟩
          by_cases c2 : RunOk S t L (ps.getD i (0, 0))
          · rw [if_pos c2] at qt
            rw [decide_eq_true c2]
            exact ⟨_, rfl, iteF (qt _ s2)⟩
          · rw [if_neg c2, hti] at qt
            rw [decide_eq_false c2]
            exact ⟨_, rfl, iteT ⟨_, rfl, qt _ s2⟩⟩
        · intro H2 s2 hD
          refine ⟨Nat.zero_le _, fun pe npe => ?_⟩
          obtain ⟨H3, e3, s3, hpe⟩ := fresh (.lst []) npe
          rw [e3]
          have s13 := (s1.trans s2).trans s3
          have hsel : ∀ x ∈ ((List.range ts.length).map fun i => if RunOk S t L (ps.getD i (0, 0)) then none else some (V.ref (ts.getD i 0))).filterMap id, ∃ i, i < ts.length ∧ ¬ RunOk S t L (ps.getD i (0, 0)) ∧ x = .ref (ts.getD i 0) := fun x hx => by
            obtain ⟨o, ho, e⟩ := List.mem_filterMap.mp hx
            obtain ⟨i, hi, rfl⟩ := List.mem_map.mp ho
            have hi := List.mem_range.mp hi
            by_cases c2 : RunOk S t L (ps.getD i (0, 0))
            · rw [if_pos c2] at e; cases e
            · rw [if_neg c2] at e
              cases e
              exact ⟨i, hi, c2, rfl⟩
          refine ne_nil (s3 _ _ hD) (fun x hx => ?_) hpe ⟨_, rfl, ?_⟩
          · obtain ⟨i, hi, _, rfl⟩ := hsel x hx
            have hti : ts[i]? = some (ts.getD i 0) := by rw [List.getD_eq_getElem?_getD, List.getElem?_eq_getElem hi]; rfl
            have hpi : ps[i]? = some (ps.getD i (0, 0)) := by rw [List.getD_eq_getElem?_getD, List.getElem?_eq_getElem (by omega)]; rfl
            exact pair_small ((s2.trans s3) _ _ (h3 i _ _ hti hpi))
          by_cases ca : ∀ p ∈ ps, RunOk S t L p
          rotate_left
          · have hbf : b = false := by
              cases b with
              | false => rfl
              | true =>
                refine absurd (fun p hp => ?_) ca
                obtain ⟨i, hi⟩ := List.mem_iff_getElem?.mp hp
                exact ((hb.mp rfl).2 i p hi).1
            subst hbf
            rw [decide_eq_false]
            · exact iteT (q _ s13)
            · intro z
              refine ca fun p hp => ?_
              obtain ⟨i, hi⟩ := List.mem_iff_getElem?.mp hp
              have hil := (List.getElem?_eq_some_iff.mp hi).1
              by_cases c2 : RunOk S t L p
              · exact c2
              · exfalso
                have hm : V.ref (ts.getD i 0) ∈ ((List.range ts.length).map fun i => if RunOk S t L (ps.getD i (0, 0)) then none else some (V.ref (ts.getD i 0))).filterMap id := by
                  refine List.mem_filterMap.mpr ⟨some (V.ref (ts.getD i 0)), List.mem_map.mpr ⟨i, List.mem_range.mpr (by omega), ?_⟩, rfl⟩
                  rw [if_neg]
                  rw [List.getD_eq_getElem?_getD, hi]
                  exact c2
                rw [z] at hm
                cases hm
          · rw [decide_eq_true]
            rotate_left
            · refine List.eq_nil_iff_forall_not_mem.mpr fun x hx => ?_
              obtain ⟨i, hi, c2, _⟩ := hsel x hx
              refine c2 (ca _ ?_)
              rw [List.getD_eq_getElem?_getD, List.getElem?_eq_getElem (by omega)]
              exact List.getElem_mem _
            refine iteF ?_
            have hdec := runs_dec c ca
            have hQ3 : SqL K H3 pq (ts.map V.ref) := (s2.trans s3).seq hQ
            have cell : ∀ {H' : Hp} (j : Nat), Same H3 H' → j < m → (ts.map V.ref)[j]? = some (.ref (ts.getD j 0)) ∧ H' (ts.getD j 0) = some (.tup [.int (ps.getD j (0, 0)).1, .int (ps.getD j (0, 0)).2]) := fun {H'} j s hj => by
              have hti : ts[j]? = some (ts.getD j 0) := by rw [List.getD_eq_getElem?_getD, List.getElem?_eq_getElem (by omega)]; rfl
              have hpi : ps[j]? = some (ps.getD j (0, 0)) := by rw [List.getD_eq_getElem?_getD, List.getElem?_eq_getElem (by omega)]; rfl
              exact ⟨by rw [List.getElem?_map, hti]; rfl, s _ _ ((s2.trans s3) _ _ (h3 j _ _ hti hpi))⟩
            refine ⟨_, rfl, _, _, rfl, ⟨by decide, by decide, by omega, by omega⟩, fun D2 nD2 => ?_⟩
            rw [show ((m : Int) - 1).toNat = m - 1 by omega]
            refine lc_selR (lo := 1) (n := m - 1) ((List.range (m - 1)).map fun i => if (ps.getD (i + 1) (0, 0)).1 < (ps.getD i (0, 0)).2 then some (V.int (1 + (i : Int))) else none) nD2 (by rw [List.length_map, List.length_range]) (small4 (by omega)) (fun x => rfl) ?_ ?_
            · intro i o H' hi ho s Qt qt
              rw [List.getElem?_map, List.getElem?_range hi] at ho
              cases ho
              obtain ⟨a1, a2⟩ := cell (i + 1) s (by omega)
              obtain ⟨b1, b2⟩ := cell i s (by omega)
              dsimp only at qt
              refine ⟨_, rfl, _, rfl, pq, _, _, .ref (ts.getD (i + 1) 0), rfl, rfl, s.seq hQ3, at_of (j := i + 1) (by omega) a1, ?_⟩
              refine ⟨_, _, _, _, rfl, rfl, .inl (.inl a2), atI_nat (j := 0) rfl, ?_⟩
              refine ⟨_, rfl, _, rfl, _, _, rfl, rfl, pq, _, _, .ref (ts.getD i 0), rfl, rfl, s.seq hQ3, at_of (j := i) (by omega) b1, ?_⟩
              refine ⟨_, _, _, _, rfl, rfl, .inl (.inl b2), atI_nat (j := 1) rfl, _, _, rfl, rfl, _, rfl, ?_⟩
              by_cases c2 : (ps.getD (i + 1) (0, 0)).1 < (ps.getD i (0, 0)).2
              · rw [if_pos c2] at qt
                rw [decide_eq_true c2]
                exact iteT ⟨_, rfl, qt _ (Same.refl _)⟩
              · rw [if_neg c2] at qt
                rw [decide_eq_false c2]
                exact iteF (qt _ (Same.refl _))
            · intro H4 s4 hD4
              rw [sel_bad (m - 1) fun i => (ps.getD (i + 1) (0, 0)).1 < (ps.getD i (0, 0)).2] at hD4
              have hadj : ((List.range (m - 1)).filter fun i => decide ((ps.getD (i + 1) (0, 0)).1 < (ps.getD i (0, 0)).2)).map (fun (i : Nat) => 1 + (i : Int)) = adjAt ps := by unfold adjAt; rw [c]
              rw [hadj] at hD4
              refine ⟨Nat.zero_le _, fun pe2 npe2 => ?_⟩
              obtain ⟨H5, e5, s5, hpe2⟩ := fresh (.lst (([] : List Int).map V.int)) npe2
              rw [show upd H4 pe2 (.lst []) = H5 from e5]
              refine eqD_lst (ns := adjAt ps) (ms := []) (.inl (.inl (s5 _ _ hD4))) (.inl (.inl hpe2)) ?_
              have eb : b = decide (adjAt ps = []) := by
                rw [Bool.eq_iff_iff, hb, hdec, decide_eq_true_eq]
              have q' := q _ ((s13.trans s4).trans s5)
              rw [eb] at q'
              exact q'
end
end My

namespace My
open PySem PySem.Spec PyProof.Rows L2 Pre
/-! ### the law's starts and tables -/
theorem last_snoc (S : List Int) (x : Int) : lastI (S ++ [x]) = x := by
  unfold lastI
  rw [List.length_append, List.length_singleton, Nat.add_sub_cancel, List.getD_eq_getElem?_getD, List.getElem?_append_right (Nat.le_refl _), Nat.sub_self]
  rfl
theorem asc_snoc {S : List Int} {x : Int} (h : S.Pairwise (· < ·)) (hx : lastI S < x) : (S ++ [x]).Pairwise (· < ·) :=
  List.pairwise_append.mpr ⟨h, List.pairwise_singleton _ _, fun a ha b hb => by
    rw [List.mem_singleton.mp hb]
    have := last_max h a ha
    omega⟩
theorem rows_zip {H : Hp} : ∀ {xs : List V} {rows : List (List Int)}, DtA H xs (rows.map rowD) → ∃ ps : List (V × List Int), ps.map Prod.fst = xs ∧ ps.map Prod.snd = rows ∧ ∀ q ∈ ps, Dt H q.1 (rowD q.2)
  | _, [], h => by
    cases h
    exact ⟨[], rfl, rfl, fun _ z => nomatch z⟩
  | _, r :: rows, h => by
    cases h with
    | cons a b =>
      obtain ⟨ps, e1, e2, e3⟩ := rows_zip b
      refine ⟨(_, r) :: ps, by rw [List.map_cons, e1], by rw [List.map_cons, e2], fun q hq => ?_⟩
      rcases List.mem_cons.mp hq with rfl | hq
      · exact a
      · exact e3 q hq
theorem zip_rows {H : Hp} : ∀ {ps : List (V × List Int)}, (∀ q ∈ ps, Dt H q.1 (rowD q.2)) → DtA H (ps.map Prod.fst) ((ps.map Prod.snd).map rowD)
  | [], _ => .nil
  | q :: ps, h => .cons (h q List.mem_cons_self) (zip_rows fun z hz => h z (List.mem_cons_of_mem _ hz))
theorem sel_if (p : List Int → Prop) [DecidablePred p] (f : List Int → List Int) : ∀ rows : List (List Int), (rows.map fun r => if p r then some (rowD (f r)) else none).filterMap id = ((rows.filter fun r => decide (p r)).map f).map rowD
  | [] => rfl
  | r :: rows => by
    rw [List.map_cons, List.filterMap_cons, List.filter_cons, sel_if p f rows]
    by_cases c : p r
    · rw [if_pos c, if_pos (decide_eq_true c)]
      rfl
    · rw [if_neg c, if_neg (by simpa using c)]
      rfl
theorem take_snoc {l : List Int} {j : Nat} {x : Int} (h : l[j]? = some x) : l.take (j + 1) = l.take j ++ [x] := by rw [List.take_add_one, h]; rfl
local macro_rules | `(tactic| walk_at "go") => `(tactic| repeat (first | (with_reducible first | refine iteT ?_ | refine iteF ?_ | refine iteNtt ?_ | refine iteNff ?_ | refine iteET (by omega) ?_ | refine iteEF (by omega) ?_ | refine iteENT (by omega) ?_ | refine iteENF (by omega) ?_ | refine iteDT (by omega) ?_ | refine iteDF (by omega) ?_ | refine iteNT (by omega) ?_ | refine iteNF (by omega) ?_) | refine ⟨_, rfl, ?_⟩ | refine ⟨_, _, rfl, rfl, ?_⟩ | refine ⟨_, _, rfl, ?_⟩ | refine ⟨rfl, ?_⟩ | refine .inl ⟨_, rfl, ?_⟩ | refine .inr ⟨_, rfl, ?_⟩))
local macro_rules | `(tactic| walk_at "b") => `(tactic| try dsimp (config := { proj := false, iota := false, eta := false, zeta := false }) only)
section
variable {P : Program} {w : World} {K : PySem.W.Frag} {mg : Str → Option Value} {base : Heap} [pf : Sup.PF P fileS]
def sp_law_starts : Sp := fun vs H Q _ => ∃ g : Addr, vs = [.ref g] ∧ PumpAt H g ∧ ∀ H' p S, But g H H' → PumpAt H' g → H p = none → H' p = some (.lst (S.map V.int)) → GoodI S → S.length ≤ 9 → (∀ x ∈ S, 0 ≤ x ∧ x ≤ 10 ^ 6) → Q (.ref p) H'
theorem G_law_starts (T : Top K mg) : FnOk P w K mg base CX0 2 T.f_law_starts T.fd_law_starts ["_law_pump_here"] sp_law_starts := by
  refine T.F_law_starts.ok sc_law_starts (fun vs H Q E h => by obtain ⟨g, rfl, _⟩ := h; rfl) (fun cdv A outer s H vs Q E hr h => ?_)
  obtain ⟨g, rfl, hP, q⟩ := h
  refine ⟨_, PSs.nox (pss_cons (ps_set (i := 1) sc_law_starts.nd rfl (by first | exact Or.inl rfl | exact Or.inr rfl) (pe_lst (pa_cons pe_int pa_nil)))
  (pss_cons (ps_for PassesOwn.never rfl (pi_range1 (by rfl) T.n_range (pa_cons (pe_call (G_law_cup (P := P) T) (hr.mono (by decide)) (by rfl) T.g_law_cup T.F_law_cup.kp T.b_law_cup .nil pass0 (pa_cons (pv 0) (pa_cons pe_int pa_nil))) pa_nil)) (pg_name (i := 2) sc_law_starts.nd rfl (by first | exact Or.inl rfl | exact Or.inr rfl))
    (pss_one (ps_expr (pe_bm PySem.F.plainAttrs_list PySem.F.slot_list_append PySem.F.type_list_append mt_append (pv 1) (pa_cons (pe_op op_add (pe_ix (k_ixL K rfl) (pv 1) (pe_un un_neg pe_int) (fun _ _ => rfl)) (pe_ix (k_ixL K rfl) (pe_lst (pa_cons pe_int (pa_cons pe_int (pa_cons pe_int (pa_cons pe_int (pa_cons pe_int (pa_cons pe_int (pa_cons pe_int (pa_cons (pe_op op_add pe_int (pe_call (G_law_cup (P := P) T) (hr.mono (by decide)) (by rfl) T.g_law_cup T.F_law_cup.kp T.b_law_cup .nil pass0 (pa_cons (pv 0) (pa_cons pe_int pa_nil)))) pa_nil))))))))) (pe_call (G_law_cup (P := P) T) (hr.mono (by decide)) (by rfl) T.g_law_cup T.F_law_cup.kp T.b_law_cup .nil pass0 (pa_cons (pv 0) (pa_cons pe_int pa_nil))) (fun _ _ => rfl))) pa_nil)))))
  (pss_one (ps_ret (pv 1))))), ?_⟩
  refine ⟨(show 1 ≤ sizeLine by decide), fun p np => ?_⟩
  obtain ⟨H1, e1, s1, hp⟩ := fresh (.lst ([(0 : Int)].map V.int)) np
  rw [show upd H p (.lst [V.int 0]) = H1 from e1]
  have npg : p ≠ g := hP.ne np
  refine ⟨_, rfl, g, 9, rfl, hP.same s1, by decide, by decide, fun H2 d b2 P2 hd => ?_⟩
  refine ⟨_, rfl, by omega, by omega, ?_⟩
  rw [Int.toNat_natCast]
  refine for_range (lo := 0) (n := d) (fun i σ H3 => ∃ (v2 : Option V) (S : List Int), σ = [some (.ref g), some (.ref p), v2] ∧ But g H H3 ∧ PumpAt H3 g ∧ H3 p = some (.lst (S.map V.int)) ∧ S.Pairwise (· < ·) ∧ (∃ r, S = 0 :: r) ∧ S.length = i + 1 ∧ lastI S ≤ 4096 * i ∧ ∀ x ∈ S, 0 ≤ x ∧ x ≤ 4096 * i)
    ⟨none, [0], rfl, (But.of s1).trans b2, P2, b2 _ _ npg hp, List.pairwise_singleton _ _, ⟨[], rfl⟩, rfl, by decide, fun x hx => by rw [List.mem_singleton.mp hx]; decide⟩ ?_ ?_
  · rintro i σ H3 hi ⟨v2, S, rfl, b3, P3, hp3, hS1, ⟨r, rfl⟩, hSl, hlast, hSb⟩
    refine ⟨_, rfl, .inl ⟨rfl, _, .inl (.inl hp3)⟩, ?_⟩
    refine ⟨_, rfl, _, rfl, p, _, -1, _, rfl, rfl, .inl (.inl hp3), at_lastI (List.cons_ne_nil _ _), ?_⟩
    refine ⟨_, rfl, g, 4095, rfl, P3, by decide, by decide, fun H4 d1 b4 P4 hd1 => ?_⟩
    refine ⟨_, _, rfl, rfl, (show 8 ≤ sizeLine by decide), fun c nc => ?_⟩
    obtain ⟨H5, e5, s5, hc⟩ := fresh (.lst [V.int 1, V.int 1, V.int 2, V.int 3, V.int 5, V.int 9, V.int 40, V.int (1 + (d1 : Int))]) nc
    dsimp only
    rw [e5]
    refine ⟨_, rfl, g, 8, rfl, P4.same s5, by decide, by decide, fun H6 k b6 P6 hk => ?_⟩
    have hc6 := b6 _ _ (P4.ne nc) hc
    obtain ⟨z, hz, hz1, hz2⟩ : ∃ z : Int, atI [V.int 1, V.int 1, V.int 2, V.int 3, V.int 5, V.int 9, V.int 40, V.int (1 + (d1 : Int))] (k : Int) = some (.int z) ∧ 1 ≤ z ∧ z ≤ 4096 := by
      have hk' : k = 0 ∨ k = 1 ∨ k = 2 ∨ k = 3 ∨ k = 4 ∨ k = 5 ∨ k = 6 ∨ k = 7 := by omega
      rcases hk' with rfl | rfl | rfl | rfl | rfl | rfl | rfl | rfl
      · exact ⟨_, rfl, by decide, by decide⟩
      · exact ⟨_, rfl, by decide, by decide⟩
      · exact ⟨_, rfl, by decide, by decide⟩
      · exact ⟨_, rfl, by decide, by decide⟩
      · exact ⟨_, rfl, by decide, by decide⟩
      · exact ⟨_, rfl, by decide, by decide⟩
      · exact ⟨_, rfl, by decide, by decide⟩
      · exact ⟨_, rfl, by omega, by omega⟩
    have hp6 : H6 p = some (.lst ((0 :: r).map V.int)) := b6 _ _ npg (s5 _ _ (b4 _ _ npg hp3))
    refine ⟨c, _, _, _, rfl, rfl, .inl (.inl hc6), hz, _, _, rfl, rfl, ?_⟩
    refine ⟨p, _, _, rfl, rfl, hp6, by rw [List.length_map, hSl]; exact small4 (by omega), ?_⟩
    have hgrow : (0 :: r).map V.int ++ [V.int (lastI (0 :: r) + z)] = (((0 :: r) ++ [lastI (0 :: r) + z]).map V.int) := by rw [List.map_append]; rfl
    refine ⟨_, (0 :: r) ++ [lastI (0 :: r) + z], rfl, ?_, ?_, by rw [upd_same]; exact congrArg some (congrArg HO.lst hgrow), asc_snoc hS1 (by omega), ⟨r ++ [lastI (0 :: r) + z], rfl⟩, by rw [List.length_append, hSl]; rfl, by rw [last_snoc]; omega, fun x hx => ?_⟩
    · intro b o nb hb
      have := (((b3.trans b4).same s5).trans b6) b o nb hb
      rw [upd_ne (ne_of_none hb np)]
      exact this
    · obtain ⟨ns, h1, h2⟩ := P6
      exact ⟨ns, by rw [upd_ne npg.symm]; exact h1, h2⟩
    · rcases List.mem_append.mp hx with hx | hx
      · have := hSb x hx
        omega
      · rw [List.mem_singleton.mp hx]
        have := hSb (lastI (0 :: r)) (by
          unfold lastI
          rw [List.getD_eq_getElem?_getD, List.getElem?_eq_getElem (by omega)]
          exact List.getElem_mem _)
        omega
  · rintro σ H3 ⟨v2, S, rfl, b3, P3, hp3, hS1, hr, hSl, hlast, hSb⟩
    exact ⟨_, rfl, q _ p S b3 P3 np hp3 ⟨by omega, hS1, hr⟩ (by omega) fun x hx => by have := hSb x hx; omega⟩
def sp_law_tables (K : PySem.W.Frag) : Sp := fun vs H Q _ => ∃ (a : Addr) (S : List Int) (m : Nat), vs = [.ref a, .int m] ∧ SqL K H a (S.map V.int) ∧ GoodI S ∧ S.length ≤ 9 ∧ 1 ≤ m ∧ m ≤ S.length ∧ ∀ H' p, Same H H' → H p = none → Dt H' (.ref p) (.list ((tables (S.drop 1) (m - 1)).map rowD)) → Q (.ref p) H'
theorem G_law_tables (T : Top K mg) : FnOk P w K mg base CX0 1 T.f_law_tables T.fd_law_tables ["_law_starts_here", "_law_many"] (sp_law_tables K) := by
  refine T.F_law_tables.ok sc_law_tables (fun vs H Q E h => by obtain ⟨a, S, m, rfl, _⟩ := h; rfl) (fun cdv A outer s H vs Q E hr h => ?_)
  obtain ⟨a, S, m, rfl, hS, hg, hl, hm1, hm, q⟩ := h
  refine ⟨_, PSs.nox (pss_cons (ps_set (i := 2) sc_law_tables.nd rfl (by first | exact Or.inl rfl | exact Or.inr rfl) (pe_lst (pa_cons (pe_lst (pa_cons pe_int pa_nil)) pa_nil)))
  (pss_cons (ps_for PassesOwn.never rfl (k_piL K rfl (pe_slice (k_slL K rfl) (pv 0) (po_some pe_int) po_none)) (pg_name (i := 3) sc_law_tables.nd rfl (by first | exact Or.inl rfl | exact Or.inr rfl))
    (pss_one (ps_set (i := 2) sc_law_tables.nd rfl (by first | exact Or.inl rfl | exact Or.inr rfl) (pe_op op_cat (pv 2) (pe_lc (own := [("_law_some", 4)]) (g := gName 4) (by rfl) sc_law_tables.nd (k_piL K rfl (pv 2)) (blkOk_by (own := [("_law_some", 4)]) (N := N_law_tables) (sc := defScope s_law_tables) (by decide +kernel)) (fun _ _ _ _ _ => (pg_name (i := 4) sc_law_tables.nd rfl (by first | exact Or.inl rfl | exact Or.inr rfl))) (fun _ _ _ _ _ => (pts_one (pt_cmpR op_lt (pe_callB (k_len K rfl) (by rfl) T.n_len (by decide +kernel) (pa_cons (pv 4) pa_nil)) (pv 1) (nomark _)))) (fun _ _ _ _ _ => (pe_op op_cat (pv 4) (pe_lst (pa_cons (pv 3) pa_nil)))))))))
  (pss_one (ps_ret (pe_callB (k_sortedR K rfl (hu65 hr)) (by rfl) T.n_sorted (by decide +kernel) (pa_cons (pe_lc (own := [("_law_some", 4)]) (g := gName 4) (by rfl) sc_law_tables.nd (k_piL K rfl (pv 2)) (blkOk_by (own := [("_law_some", 4)]) (N := N_law_tables) (sc := defScope s_law_tables) (by decide +kernel)) (fun _ _ _ _ _ => (pg_name (i := 4) sc_law_tables.nd rfl (by first | exact Or.inl rfl | exact Or.inr rfl))) (fun _ _ _ _ _ => (pts_one (pt_cmpR op_eq (pe_callB (k_len K rfl) (by rfl) T.n_len (by decide +kernel) (pa_cons (pv 4) pa_nil)) (pv 1) (nomark _)))) (fun _ _ _ _ _ => (pv 4))) pa_nil)))))), ?_⟩
  refine ⟨(show 1 ≤ sizeLine by decide), fun c nc => ?_⟩
  have d0 := dt_new (S := []) Has.nil nc (xs := [.int 0]) (ds := [.int 0]) (.cons (.int _) .nil)
  have s0 := same_upd (o := .lst [.int 0]) nc
  generalize upd H c (.lst [.int 0]) = H1 at d0 s0
  refine ⟨(show 1 ≤ sizeLine by decide), fun f nf => ?_⟩
  have d1 := dt_new (S := []) Has.nil nf (xs := [.ref c]) (ds := [rowD [0]]) (.cons d0 .nil)
  have s1 := same_upd (o := .lst [.ref c]) nf
  generalize upd H1 f (.lst [.ref c]) = H2 at d1 s1
  rw [rs_nil] at d1
  have s02 := s0.trans s1
  refine ⟨_, rfl, _, rfl, a, _, rfl, s02.seq hS, fun c3 nc3 => ?_⟩
  rw [show (some (1 : Int)) = some ((1 : Nat) : Int) from rfl, cut_drop, ← List.map_drop]
  obtain ⟨H3, e3, s3, hc3⟩ := fresh (.lst ((S.drop 1).map V.int)) nc3
  rw [e3]
  have s03 := s02.trans s3
  have hrl : (S.drop 1).length ≤ 8 := by rw [List.length_drop]; omega
  have hml : ∀ j, (subsF m ((S.drop 1).take j)).length ≤ 256 := fun j => by
    refine Nat.le_trans (subs_len m _) ?_
    have : ((S.drop 1).take j).length ≤ 8 := by rw [List.length_take]; omega
    exact Nat.le_trans (Nat.pow_le_pow_right (by decide) this) (by decide)
  have hlen : ∀ j, ∀ r ∈ subsF m ((S.drop 1).take j), r.length ≤ 9 := fun j r hr => by
    obtain ⟨ys, rfl, _, h⟩ := (subs_mem hm1 _ _).mp hr
    rw [List.length_cons]
    omega
  refine ⟨c3, rfl, ⟨_, .inl (.inl hc3)⟩, for_list (K := K) (a := c3) (xs := (S.drop 1).map V.int) (fun j σ H4 => ∃ (f : Addr) (v3 v4 : Option V), σ = [some (.ref a), some (.int m), some (.ref f), v3, v4] ∧ Same H H4 ∧ H4 c3 = some (.lst ((S.drop 1).map V.int)) ∧ Dt H4 (.ref f) (.list ((subsF m ((S.drop 1).take j)).map rowD)))
    ⟨f, none, none, rfl, s03, hc3, d1.same s3⟩ (fun j σ H4 _ ⟨_, _, _, _, _, h, _⟩ => .inl (.inl h)) ?_ ?_⟩
  · rintro j x σ H4 hx ⟨f, v3, v4, rfl, s4, hc4, d4⟩
    obtain ⟨sn, hsn, rfl⟩ := int_at hx
    obtain ⟨_, xs, e, hf, hxs⟩ := d4.listE
    cases e
    have hxl := hxs.len
    rw [List.length_map] at hxl
    have h256 := hml j
    refine ⟨_, rfl, _, rfl, f, rfl, ⟨_, .inl (.inl hf)⟩, fun D nD => ?_⟩
    refine lc_dL (K := K) (a := f) (xs := xs) (S := []) Has.nil ((subsF m ((S.drop 1).take j)).map fun r => if r.length < m then some (rowD (r ++ [sn])) else none) nD (.inl (.inl hf)) (by rw [List.length_map, hxl]) (small4 (by omega)) (fun x => rfl) ?_ ?_
    · intro i y o H' hy ho s' hH Qt qt
      obtain ⟨dd, hdd, hyd⟩ := hxs.got hy
      rw [List.getElem?_map] at hdd ho
      obtain ⟨r, hr, rfl⟩ := Option.map_eq_some_iff.mp hdd
      rw [hr] at ho
      cases ho
      obtain ⟨ya, rfl, hya⟩ := hyd.intsE
      have hya' := s' _ _ hya
      have hr9 := hlen j r (List.mem_of_getElem? hr)
      refine ⟨_, rfl, ya, _, rfl, .inl (.inl (.inl hya')), _, rfl, _, _, rfl, rfl, _, rfl, ?_⟩
      rw [List.length_map]
      dsimp only at qt
      by_cases c : r.length < m
      · rw [if_pos c] at qt
        rw [decide_eq_true (show ((r.length : Nat) : Int) < (m : Int) by omega)]
        refine iteT ⟨_, rfl, _, rfl, (show 1 ≤ sizeLine by decide), fun c5 nc5 => ?_⟩
        obtain ⟨H5, e5, s5, hc5⟩ := fresh (.lst [V.int sn]) nc5
        rw [e5]
        refine ⟨ya, c5, _, _, rfl, rfl, s5 _ _ hya', hc5, by rw [List.length_map, sizeLine_eq]; show r.length + 1 ≤ _; omega, fun c6 nc6 => ?_⟩
        have d6 := dt_new (S := [D]) (hH.same s5) nc6 (xs := (r ++ [sn]).map V.int) (ds := (r ++ [sn]).map PyData.int) (DtA.ints _)
        rw [show (r.map V.int ++ [V.int sn]) = (r ++ [sn]).map V.int by rw [List.map_append]; rfl]
        exact qt _ _ (s5.trans (same_upd nc6)) d6
      · rw [if_neg c] at qt
        rw [decide_eq_false (show ¬ ((r.length : Nat) : Int) < (m : Int) by omega)]
        exact iteF (qt none _ (Same.refl _) trivial)
    · intro H6 s6 _ d6
      rw [rs_nil, sel_if (fun r => r.length < m) fun r => r ++ [sn]] at d6
      have hnext := subs_next m ((S.drop 1).take j) sn
      rw [← take_snoc hsn] at hnext
      have h256' := hml (j + 1)
      have hl2 : ((subsF m ((S.drop 1).take j)).map rowD).length + ((((subsF m ((S.drop 1).take j)).filter fun r => decide (r.length < m)).map fun r => r ++ [sn]).map rowD).length ≤ sizeLine := by
        rw [← List.length_append, ← List.map_append, ← hnext, List.length_map, sizeLine_eq]
        omega
      refine d_cat (S := []) Has.nil (by rw [rs_nil]; exact d4.same s6) (by rw [rs_nil]; exact d6) hl2 fun p7 H7 s7 np7 d7 => ?_
      rw [rs_nil, ← List.map_append, ← hnext] at d7
      exact ⟨p7, some (.int sn), v4, rfl, (s4.trans s6).trans s7, s7 _ _ (s6 _ _ hc4), d7⟩
  · rintro σ H4 ⟨f, v3, v4, rfl, s4, hc4, d4⟩
    rw [List.length_map, List.take_length] at d4
    have h256 := hml (S.drop 1).length
    have hlen' := hlen (S.drop 1).length
    rw [List.take_length] at h256 hlen'
    obtain ⟨_, xs, e, hf, hxs⟩ := d4.listE
    cases e
    have hxl := hxs.len
    rw [List.length_map] at hxl
    refine ⟨_, rfl, f, rfl, ⟨_, .inl (.inl hf)⟩, fun D nD => ?_⟩
    refine lc_dL (K := K) (a := f) (xs := xs) (S := []) Has.nil ((subsF m (S.drop 1)).map fun r => if r.length = m then some (rowD (id r)) else none) nD (.inl (.inl hf)) (by rw [List.length_map, hxl]) (small4 (by omega)) (fun x => rfl) ?_ ?_
    · intro i y o H' hy ho s' hH Qt qt
      obtain ⟨dd, hdd, hyd⟩ := hxs.got hy
      rw [List.getElem?_map] at hdd ho
      obtain ⟨r, hr, rfl⟩ := Option.map_eq_some_iff.mp hdd
      rw [hr] at ho
      cases ho
      have hyd' : Dt (rs [D] H') y (rowD r) := hyd.same fun b u hb => under (S := []) (H := H4) nD s' b u (by rw [rs_nil]; exact hb)
      obtain ⟨ya, rfl, hya⟩ := hyd.intsE
      have hya' := s' _ _ hya
      refine ⟨_, rfl, ya, _, rfl, .inl (.inl (.inl hya')), _, rfl, rfl, _, rfl, ?_⟩
      rw [List.length_map]
      dsimp only at qt
      by_cases c : r.length = m
      · rw [if_pos c] at qt
        rw [decide_eq_true (congrArg V.int (show ((r.length : Nat) : Int) = (m : Int) by omega))]
        exact iteT ⟨_, rfl, qt _ _ (Same.refl _) hyd'⟩
      · rw [if_neg c] at qt
        rw [decide_eq_false (fun z => c (by have := V.int.inj z; omega))]
        exact iteF (qt none _ (Same.refl _) trivial)
    · intro H6 s6 _ d6
      rw [rs_nil, sel_if (fun r => r.length = m) id, List.map_id] at d6
      obtain ⟨_, ys, e, hD, hys⟩ := d6.listE
      cases e
      obtain ⟨ps, p1, p2, p3⟩ := rows_zip hys
      refine ⟨D, ps, rfl, .inl (.inl (by rw [p1]; exact hD)), fun z hz => (p3 z hz).dp, fun qs p hperm hpw np => ?_⟩
      have hq : ∀ z ∈ qs, Dt H6 z.1 (rowD z.2) := fun z hz => p3 z (hperm.mem_iff.mp hz)
      obtain ⟨k, rfl⟩ : ∃ k, m = k + 1 := ⟨m - 1, by omega⟩
      have hp : (S.drop 1).Pairwise (· < ·) := hg.2.1.sublist (List.drop_sublist _ _)
      have hst : qs.map Prod.snd = tables (S.drop 1) k := sorted_tables hp (by rw [← p2]; exact hperm.map _) (List.pairwise_map.mpr hpw)
      have sp := same_upd (o := .lst (qs.map Prod.fst)) np
      refine q _ p ((s4.trans s6).trans sp) ((s4.trans s6).free np) ?_
      rw [Nat.add_sub_cancel, ← hst]
      exact .lst upd_same ((zip_rows hq).same sp)
end
end My

namespace My
open PySem PySem.Spec PyProof.Rows L2 Pre
/-! ### steps and runs, in the law -/
theorem step_max : ∀ (xs : List Int) (c t : Int), stepL c xs t ∈ lens c xs t ∧ ∀ v ∈ lens c xs t, v ≤ stepL c xs t
  | [], c, t => ⟨List.mem_singleton.mpr rfl, fun v hv => by rw [List.mem_singleton.mp hv]; exact Int.le_refl _⟩
  | x :: xs, c, t => by
    obtain ⟨h1, h2⟩ := step_max xs x t
    refine ⟨?_, fun v hv => ?_⟩
    · show max (x - c) (stepL x xs t) ∈ (x - c) :: lens x xs t
      rcases Int.le_total (x - c) (stepL x xs t) with h | h
      · rw [Int.max_eq_right h]; exact List.mem_cons_of_mem _ h1
      · rw [Int.max_eq_left h]; exact List.mem_cons_self
    · show v ≤ max (x - c) (stepL x xs t)
      rcases List.mem_cons.mp hv with rfl | hv
      · omega
      · have := h2 v hv
        omega
local macro_rules | `(tactic| walk_at "go") => `(tactic| repeat (first | (with_reducible first | refine iteT ?_ | refine iteF ?_ | refine iteNtt ?_ | refine iteNff ?_ | refine iteET (by omega) ?_ | refine iteEF (by omega) ?_ | refine iteENT (by omega) ?_ | refine iteENF (by omega) ?_ | refine iteDT (by omega) ?_ | refine iteDF (by omega) ?_ | refine iteNT (by omega) ?_ | refine iteNF (by omega) ?_) | refine ⟨_, rfl, ?_⟩ | refine ⟨_, _, rfl, rfl, ?_⟩ | refine ⟨_, _, rfl, ?_⟩ | refine ⟨rfl, ?_⟩ | refine .inl ⟨_, rfl, ?_⟩ | refine .inr ⟨_, rfl, ?_⟩))
local macro_rules | `(tactic| walk_at "b") => `(tactic| try dsimp (config := { proj := false, iota := false, eta := false, zeta := false }) only)
section
variable {P : Program} {w : World} {K : PySem.W.Frag} {mg : Str → Option Value} {base : Heap} [pf : Sup.PF P fileS]
def sp_law_step (K : PySem.W.Frag) : Sp := fun vs H Q _ => ∃ (a : Addr) (c : Int) (xs : List Int) (t : Int), vs = [.ref a, .int t] ∧ SqL K H a ((c :: xs).map V.int) ∧ xs.length ≤ 60 ∧ ∀ H', Same H H' → Q (.int (stepL c xs t)) H'
theorem G_law_step (T : Top K mg) : FnOk P w K mg base CX0 1 T.f_law_step T.fd_law_step ["_law_some", "_law_total"] (sp_law_step K) := by
  refine T.F_law_step.ok sc_law_step (fun vs H Q E h => by obtain ⟨a, c, xs, t, rfl, _⟩ := h; rfl) (fun cdv A outer s H vs Q E hr h => ?_)
  obtain ⟨a, c, xs, t, rfl, hS, hl, q⟩ := h
  refine ⟨_, PSs.nox (pss_one (ps_ret (pe_callB (k_max K rfl rfl) (by rfl) T.n_max (by decide +kernel) (pa_cons (pe_lc (own := [("_law_low", 2), ("_law_high", 3)]) (g := gTup K 2 (gCons (gName 2) (gCons (gName 3) (gNil)))) (tt := tYes) (by rfl) sc_law_step.nd (pi_zip (by rfl) T.n_zip (pa_cons (pv 0) (pa_cons (pe_op op_cat (pe_slice (k_slL K rfl) (pv 0) (po_some pe_int) po_none) (pe_lst (pa_cons (pv 1) pa_nil))) pa_nil))) (blkOk_by (own := [("_law_low", 2), ("_law_high", 3)]) (N := N_law_step) (sc := defScope s_law_step) (by decide +kernel)) (fun _ _ _ _ _ => (k_pgT K rfl (by rfl) (pgs_cons (pg_name (i := 2) sc_law_step.nd rfl (by first | exact Or.inl rfl | exact Or.inr rfl)) (pgs_cons (pg_name (i := 3) sc_law_step.nd rfl (by first | exact Or.inl rfl | exact Or.inr rfl)) pgs_nil)))) (fun _ _ _ _ _ => pts_nil) (fun _ _ _ _ _ => (pe_op op_sub (pv 3) (pv 2)))) pa_nil)))), ?_⟩
  refine ⟨_, rfl, _, rfl, _, rfl, a, _, rfl, hS, fun c1 nc1 => ?_⟩
  rw [show (some (1 : Int)) = some ((1 : Nat) : Int) from rfl, cut_drop, ← List.map_drop]
  obtain ⟨H1, e1, s1, hc1⟩ := fresh (.lst (((c :: xs).drop 1).map V.int)) nc1
  rw [e1]
  refine ⟨_, rfl, (show 1 ≤ sizeLine by decide), fun c2 nc2 => ?_⟩
  obtain ⟨H2, e2, s2, hc2⟩ := fresh (.lst [V.int t]) nc2
  rw [e2]
  refine ⟨c1, c2, _, _, rfl, rfl, s2 _ _ hc1, hc2, by rw [List.length_map, sizeLine_eq]; show xs.length + 1 ≤ _; omega, fun c3 nc3 => ?_⟩
  obtain ⟨H3, e3, s3, hc3⟩ := fresh (.lst ((endsL (c :: xs) t).map V.int)) nc3
  rw [show upd H2 c3 (.lst (((c :: xs).drop 1).map V.int ++ [V.int t])) = H3 by rw [← e3]; unfold endsL; rw [List.map_append]; rfl]
  have s03 := (s1.trans s2).trans s3
  have hC3 : SqL K H3 c3 ((endsL (c :: xs) t).map V.int) := .inl (.inl hc3)
  have hS3 := s03.seq hS
  have hel := ends_len (S := c :: xs) (t := t) (by simp)
  have hsl : (lens c xs t).length = (c :: xs).length := lens_len c xs t
  refine ⟨a, c3, _, _, rfl, hS3, hC3, fun D nD => ?_⟩
  refine lc_dW (walk_zip (K := K) (a := a) (b := c3) (xs := (c :: xs).map V.int) (ys := (endsL (c :: xs) t).map V.int) (n := (c :: xs).length) (by rw [List.length_map, List.length_map, hel, Nat.min_self])) (S := []) Has.nil ((lens c xs t).map fun x => some (PyData.int x)) nD (by rw [List.length_map, hsl]) (small4 (by rw [List.length_cons]; omega)) (fun H' s => ⟨s.seq hS3, s.seq hC3⟩) ?_ ?_
  · rintro j o H0 x H'' hj ho s0 hH ⟨T1, x1, y1, rfl, nT, rfl, e1, e2⟩ Qt qt
    have st := same_upd (o := .tup [x1, y1]) nT
    obtain ⟨n1, en1, rfl⟩ := int_at e1
    obtain ⟨n2, en2, rfl⟩ := int_at e2
    have eo : o = some (PyData.int (n2 - n1)) := by
      rw [ends_at hj] at en2
      rw [List.getElem?_map, lens_at (by rw [List.length_cons] at hj; exact hj)] at ho
      rw [← Option.some.inj en2, show n1 = (c :: xs).getD j 0 by rw [List.getD_eq_getElem?_getD, en1]; rfl]
      exact (Option.some.inj ho).symm
    subst eo
    refine ⟨T1, _, rfl, .inl (.inl upd_same), rfl, ?_⟩
    generalize upd H0 T1 (.tup [V.int n1, V.int n2]) = H8 at st
    refine ⟨_, _, rfl, _, _, rfl, rfl, ⟨rfl, ?_⟩⟩
    refine ⟨_, rfl, _, rfl, _, _, rfl, rfl, ?_⟩
    exact qt _ _ st (.int _)
  · intro H7 s7 _ dD
    have el : ((lens c xs t).map fun x => some (PyData.int x)).filterMap id = (lens c xs t).map PyData.int := sel_map _ _
    rw [el, rs_nil] at dD
    obtain ⟨_, e, hD⟩ := Dt.intsE (ns := lens c xs t) dD
    cases e
    obtain ⟨m1, m2⟩ := step_max xs c t
    refine ⟨D, _, rfl, .inl (.inl hD), by rw [hsl]; simp, fun u hu hmax => ?_⟩
    have e : u = stepL c xs t := Int.le_antisymm (m2 u hu) (hmax _ m1)
    rw [e]
    exact q _ (s03.trans s7)
def sp_law_is_runs (K : PySem.W.Frag) : Sp := fun vs H Q _ => ∃ (a : Addr) (S : List Int) (t : Int) (m : Nat) (step : Int) (pr : Addr) (ps : List (Int × Int)) (b : Bool), vs = [.ref a, .int t, .int m, .int step, .ref pr] ∧ SqL K H a (S.map V.int) ∧ 0 < S.length ∧ S.length ≤ 60 ∧ PrsAt H pr ps ∧ ps.length ≤ 100 ∧ (b = true ↔ RunsOk S t step m ps) ∧ ∀ H', Same H H' → Q (.bl b) H'
theorem G_law_is_runs (T : Top K mg) : FnOk P w K mg base CX0 1 T.f_law_is_runs T.fd_law_is_runs ["_law_starts_here", "_law_total", "_law_many", "_law_step_here", "_law_runs"] (sp_law_is_runs K) := by
  refine T.F_law_is_runs.ok sc_law_is_runs (fun vs H Q E h => by obtain ⟨a, S, t, m, step, pr, ps, b, rfl, _⟩ := h; rfl) (fun cdv A outer s H vs Q E hr h => ?_)
  obtain ⟨a, S, t, m, step, pr, ps, b, rfl, hS, hl0, hl, hP, hp100, hb, q⟩ := h
  refine ⟨_, PSs.nox (pss_cons (ps_set (i := 5) sc_law_is_runs.nd rfl (by first | exact Or.inl rfl | exact Or.inr rfl) (pe_op op_cat (pe_slice (k_slL K rfl) (pv 0) (po_some pe_int) po_none) (pe_lst (pa_cons (pv 1) pa_nil))))
  (pss_cons (ps_if (pt_cmpR op_ne (pe_callB (k_len K rfl) (by rfl) T.n_len (by decide +kernel) (pa_cons (pv 4) pa_nil)) (pv 2) (nomark _))
    (pss_one (ps_ret pe_bl))
    pss_nil)
  (pss_cons (ps_for PassesOwn.never rfl (k_piE K rfl (by rfl) T.n_enumerate (pa_cons (pv 4) pa_nil)) (k_pgT K rfl (by rfl) (pgs_cons (pg_name (i := 6) sc_law_is_runs.nd rfl (by first | exact Or.inl rfl | exact Or.inr rfl)) (pgs_cons (pg_name (i := 7) sc_law_is_runs.nd rfl (by first | exact Or.inl rfl | exact Or.inr rfl)) pgs_nil)))
    (pss_cons (ps_if (PW.pt (pw_or (pt_not (pt_chain3 op_le op_lt op_lt pe_int (pe_ix (k_ixT K rfl) (pv 7) pe_int (fun _ _ => rfl)) (pe_ix (k_ixT K rfl) (pv 7) pe_int (fun _ _ => rfl)) (pe_callB (k_len K rfl) (by rfl) T.n_len (by decide +kernel) (pa_cons (pv 0) pa_nil)))) (pw_or1 (PW.pt (pw_and (pt_cmpR op_gt (pv 6) pe_int (nomark _)) (pw_and1 (pt_cmpR op_lt (pe_ix (k_ixT K rfl) (pv 7) pe_int (fun _ _ => rfl)) (pe_ix (k_ixT K rfl) (pe_ix (k_ixL K rfl) (pv 4) (pe_op op_sub (pv 6) pe_int) (fun _ _ => rfl)) pe_int (fun _ _ => rfl)) (nomark _))))))))
    (pss_one (ps_ret pe_bl))
    pss_nil)
  (pss_one (ps_if (pt_cmpR op_lt (pe_op op_sub (pe_ix (k_ixL K rfl) (pv 5) (pe_ix (k_ixT K rfl) (pv 7) pe_int (fun _ _ => rfl)) (fun _ _ => rfl)) (pe_ix (k_ixL K rfl) (pv 0) (pe_ix (k_ixT K rfl) (pv 7) pe_int (fun _ _ => rfl)) (fun _ _ => rfl))) (pv 3) (nomark _))
    (pss_one (ps_ret pe_bl))
    pss_nil))))
  (pss_one (ps_ret pe_bl))))), ?_⟩
  refine ⟨_, rfl, _, rfl, a, _, rfl, hS, fun c nc => ?_⟩
  rw [show (some (1 : Int)) = some ((1 : Nat) : Int) from rfl, cut_drop, ← List.map_drop]
  obtain ⟨H1, e1, s1, hc⟩ := fresh (.lst ((S.drop 1).map V.int)) nc
  rw [e1]
  refine ⟨_, rfl, (show 1 ≤ sizeLine by decide), fun c2 nc2 => ?_⟩
  obtain ⟨H2, e2, s2, hc2⟩ := fresh (.lst [V.int t]) nc2
  rw [e2]
  refine ⟨c, c2, _, _, rfl, rfl, s2 _ _ hc, hc2, by rw [List.length_map, List.length_drop, sizeLine_eq]; show _ + 1 ≤ _; omega, fun c3 nc3 => ?_⟩
  obtain ⟨H3, e3, s3, hc3⟩ := fresh (.lst ((endsL S t).map V.int)) nc3
  rw [show upd H2 c3 (.lst ((S.drop 1).map V.int ++ [V.int t])) = H3 by rw [← e3]; unfold endsL; rw [List.map_append]; rfl]
  have s03 := (s1.trans s2).trans s3
  obtain ⟨ts, h1, h2, h3⟩ := hP.same s03
  have hQ : SqL K H3 pr (ts.map V.ref) := .inl (.inl h1)
  have fals : ¬ RunsOk S t step m ps → b = false := fun h => by
    cases b with
    | false => rfl
    | true => exact absurd (hb.mp rfl) h
  refine ⟨_, rfl, pr, _, rfl, .inl hQ, _, rfl, rfl, _, rfl, ?_⟩
  rw [List.length_map, h2]
  by_cases c0 : ps.length = m
  rotate_left
  · rw [fals fun z => c0 z.1] at q
    rw [decide_eq_false (fun z => c0 (by have := V.int.inj z; omega))]
    exact iteT (q _ s03)
  rw [decide_eq_true (congrArg V.int (show (ps.length : Int) = (m : Int) by omega))]
  refine iteF ?_
  refine ⟨_, rfl, pr, _, rfl, hQ, ?_⟩
  refine for_it (walk_enum (K := K) (a := pr) (xs := ts.map V.ref)) (fun j σ H4 => ∃ v6 v7 : Option V, σ = [some (.ref a), some (.int t), some (.int m), some (.int step), some (.ref pr), some (.ref c3), v6, v7] ∧ Same H3 H4 ∧ ∀ (i : Nat) (p : Int × Int), i < j → ps[i]? = some p → RunOk S t step p ∧ ∀ q, 0 < i → ps[i - 1]? = some q → q.2 ≤ p.1)
    ⟨none, none, rfl, Same.refl _, fun i p hi => absurd hi (Nat.not_lt_zero i)⟩ (fun j σ H4 _ ⟨_, _, _, s, _⟩ => s.seq hQ) ?_ ?_
  · rintro j x σ H4 H5 hj ⟨v6, v7, rfl, s4, hok⟩ ⟨t2, y, z, rfl, nt2, rfl, ey, ez⟩
    cases ey
    have ez' : (ts.map V.ref)[j]? = some z := ez
    rw [List.getElem?_map] at ez'
    obtain ⟨tr, htr, rfl⟩ := Option.map_eq_some_iff.mp ez'
    have hjl : j < ts.length := (List.getElem?_eq_some_iff.mp htr).1
    have hpj : ps[j]? = some ps[j] := List.getElem?_eq_getElem (by omega)
    have s5 : Same H4 (upd H4 t2 (.tup [.int (j : Nat), .ref tr])) := same_upd nt2
    refine ⟨t2, _, rfl, .inl (.inl upd_same), rfl, _, _, rfl, _, _, rfl, rfl, ?_⟩
    generalize upd H4 t2 (.tup [.int (j : Nat), .ref tr]) = H5 at s5
    have s35 := s4.trans s5
    have s05 := s03.trans s35
    have hcell := s35 _ _ (h3 j tr _ htr hpj)
    generalize hpe : ps[j] = pj at hcell hpj
    obtain ⟨x, y⟩ := pj
    have hT : SqT K H5 tr [.int x, .int y] := .inl (.inl hcell)
    have bad : ¬ (RunOk S t step (x, y) ∧ ∀ q, 0 < j → ps[j - 1]? = some q → q.2 ≤ x) → b = false := fun h => fals fun z => h (z.2 j _ hpj)
    refine ⟨_, rfl, tr, _, _, _, rfl, rfl, hT, atI_nat (j := 0) rfl, _, _, rfl, rfl, _, rfl, ?_⟩
    by_cases c1 : 0 ≤ x
    rotate_left
    · rw [bad fun z => c1 z.1.1] at q
      rw [decide_eq_false c1]
      exact iteF ⟨_, rfl, iteT (q _ s05)⟩
    rw [decide_eq_true c1]
    refine iteT ⟨_, rfl, tr, _, _, _, rfl, rfl, hT, atI_nat (j := 1) rfl, _, _, rfl, rfl, _, rfl, ?_⟩
    by_cases c2' : x < y
    rotate_left
    · rw [bad fun z => c2' z.1.2.1] at q
      rw [decide_eq_false c2']
      exact iteF ⟨_, rfl, iteT (q _ s05)⟩
    rw [decide_eq_true c2']
    refine iteT ⟨_, rfl, a, _, rfl, .inl ((s03.trans s35).seq hS), _, _, rfl, rfl, _, rfl, ?_⟩
    rw [List.length_map]
    by_cases c3' : y < (S.length : Int)
    rotate_left
    · rw [bad fun z => c3' z.1.2.2.1] at q
      rw [decide_eq_false c3']
      exact iteT (q _ s05)
    rw [decide_eq_true c3']
    have ey2 : y = ((y.toNat : Nat) : Int) := by omega
    have ex2 : x = ((x.toNat : Nat) : Int) := by omega
    refine iteF ⟨_, rfl, _, _, rfl, rfl, _, rfl, ?_⟩
    by_cases cj : 0 < j
    rotate_left
    · rw [decide_eq_false (show ¬ ((j : Nat) : Int) > 0 by omega)]
      refine iteF ?_
      refine ⟨_, rfl, _, rfl, tr, _, _, _, rfl, rfl, hT, atI_nat (j := 1) rfl, ?_⟩
      refine ⟨c3, _, _, _, rfl, rfl, .inl (.inl (s35 _ _ hc3)), end_at ey2 (by omega), ?_⟩
      refine ⟨_, rfl, _, rfl, tr, _, _, _, rfl, rfl, hT, atI_nat (j := 0) rfl, ?_⟩
      refine ⟨a, _, _, _, rfl, rfl, (s03.trans s35).seq hS, at_int ex2 (by omega), _, _, rfl, rfl, _, rfl, _, _, rfl, rfl, _, rfl, ?_⟩
      by_cases c4 : endF S t y.toNat - S.getD x.toNat 0 < step
      · rw [bad fun z => absurd z.1.2.2.2 (by show ¬ endF S t y.toNat - S.getD x.toNat 0 ≥ step; omega)] at q
        rw [decide_eq_true c4]
        exact iteT (q _ s05)
      · rw [decide_eq_false c4]
        refine iteF ⟨_, _, rfl, s35, fun i p hi hp => ?_⟩
        rcases Nat.lt_or_ge i j with c5 | c5
        · exact hok i p c5 hp
        · have : i = j := by omega
          subst this
          rw [hpj] at hp
          cases hp
          exact ⟨⟨c1, c2', c3', by show endF S t y.toNat - S.getD x.toNat 0 ≥ step; omega⟩, fun q hq => absurd hq cj⟩
    · rw [decide_eq_true (show ((j : Nat) : Int) > 0 by omega)]
      have hpp : ps[j - 1]? = some ps[j - 1] := List.getElem?_eq_getElem (by omega)
      have htp : ts[j - 1]? = some ts[j - 1] := List.getElem?_eq_getElem (by omega)
      have hcp := s35 _ _ (h3 (j - 1) _ _ htp hpp)
      refine iteT ⟨_, rfl, tr, _, _, _, rfl, rfl, hT, atI_nat (j := 0) rfl, ?_⟩
      refine ⟨_, rfl, _, rfl, _, _, rfl, rfl, pr, _, _, .ref ts[j - 1], rfl, rfl, s35.seq hQ, at_of (j := j - 1) (by omega) (by rw [List.getElem?_map, htp]; rfl), ?_⟩
      refine ⟨_, _, _, _, rfl, rfl, .inl (.inl hcp), atI_nat (j := 1) rfl, _, _, rfl, rfl, _, rfl, ?_⟩
      by_cases ca : x < ps[j - 1].2
      · rw [bad fun z => absurd (z.2 _ cj hpp) (by omega)] at q
        rw [decide_eq_true ca]
        exact iteT (q _ s05)
      · rw [decide_eq_false ca]
        refine iteF ?_
        refine ⟨_, rfl, _, rfl, tr, _, _, _, rfl, rfl, hT, atI_nat (j := 1) rfl, ?_⟩
        refine ⟨c3, _, _, _, rfl, rfl, .inl (.inl (s35 _ _ hc3)), end_at ey2 (by omega), ?_⟩
        refine ⟨_, rfl, _, rfl, tr, _, _, _, rfl, rfl, hT, atI_nat (j := 0) rfl, ?_⟩
        refine ⟨a, _, _, _, rfl, rfl, (s03.trans s35).seq hS, at_int ex2 (by omega), _, _, rfl, rfl, _, rfl, _, _, rfl, rfl, _, rfl, ?_⟩
        by_cases c4 : endF S t y.toNat - S.getD x.toNat 0 < step
        · rw [bad fun z => absurd z.1.2.2.2 (by show ¬ endF S t y.toNat - S.getD x.toNat 0 ≥ step; omega)] at q
          rw [decide_eq_true c4]
          exact iteT (q _ s05)
        · rw [decide_eq_false c4]
          refine iteF ⟨_, _, rfl, s35, fun i p hi hp => ?_⟩
          rcases Nat.lt_or_ge i j with c5 | c5
          · exact hok i p c5 hp
          · have : i = j := by omega
            subst this
            rw [hpj] at hp
            cases hp
            exact ⟨⟨c1, c2', c3', by show endF S t y.toNat - S.getD x.toNat 0 ≥ step; omega⟩, fun q hq hpq => by rw [hpp] at hpq; cases hpq; show ps[i - 1].2 ≤ x; omega⟩
  · rintro σ H4 ⟨v6, v7, rfl, s4, hok⟩
    rw [List.length_map, h2] at hok
    have : b = true := hb.mpr ⟨c0, fun i p hp => hok i p (List.getElem?_eq_some_iff.mp hp).1 hp⟩
    rw [this] at q
    exact q _ (s03.trans s4)
end
end My

namespace My
open PySem PySem.Spec PyProof.Rows L2 Pre
/-! ### what is refused -/
/-- good starts, a wrong number behind them -/
def NumWrong (K : PySem.W.Frag) (H : Hp) (v tv mv nv : V) (k : Nat) (u : V) : Prop := ∃ (a : Addr) (S : List Int), v = .ref a ∧ H a = some (.lst (S.map V.int)) ∧ GoodI S ∧
  ((u = tv ∧ NumV K H tv (lastI S + 1) none false) ∨ ∃ t : Int, tv = .int t ∧ lastI S < t ∧ ((u = mv ∧ NumV K H mv 1 (some (S.length : Int)) false) ∨
    (k = 5 ∧ u = nv ∧ ∃ m : Nat, mv = .int m ∧ 1 ≤ m ∧ m ≤ S.length ∧ ∀ L, bst t 0 (S.drop 1) (m - 1) = some L → NumV K H nv 0 (some (((cntG t L 0 (S.drop 1) (m - 1) : Nat) : Int) - 1)) false)))
theorem NumWrong.same {K : PySem.W.Frag} {H H' : Hp} {v tv mv nv : V} {k : Nat} {u : V} (s : Same H H') (h : NumWrong K H v tv mv nv k u) : NumWrong K H' v tv mv nv k u := by
  obtain ⟨a, S, e1, e2, hg, h⟩ := h
  refine ⟨a, S, e1, s _ _ e2, hg, ?_⟩
  rcases h with ⟨e, h⟩ | ⟨t, e3, e4, h⟩
  · exact .inl ⟨e, h.same s⟩
  · refine .inr ⟨t, e3, e4, ?_⟩
    rcases h with ⟨e, h⟩ | ⟨e5, e6, m, e7, e8, e9, h⟩
    · exact .inl ⟨e, h.same s⟩
    · exact .inr ⟨e5, e6, m, e7, e8, e9, fun L hL => (h L hL).same s⟩
theorem BadS.same {K : PySem.W.Frag} {H H' : Hp} {v : V} (s : Same H H') (h : BadS K H v) : BadS K H' v := by
  rcases h with h | ⟨a, xs, e1, e2, e3, e4, e5⟩ | ⟨a, ns, e1, e2, e3, e4⟩
  · exact .inl (h.same s)
  · exact .inr (.inl ⟨a, xs, e1, s _ _ e2, e3, fun x hx => (e4 x hx).same s, e5⟩)
  · exact .inr (.inr ⟨a, ns, e1, s _ _ e2, e3, e4⟩)
theorem NumWrong.starts {K : PySem.W.Frag} {H : Hp} {E : XK} {CS CN : Addr} {v tv mv nv : V} {k : Nat} {u : V} {q : Addr → List Int → Prop} (h : NumWrong K H v tv mv nv k u) (e : EE H E CN u)
    (h5 : ∀ (a : Addr) (S : List Int) (t : Int) (m : Nat), k = 5 → u = nv → tv = .int t → mv = .int m → lastI S < t → 1 ≤ m → m ≤ S.length → (∀ L, bst t 0 (S.drop 1) (m - 1) = some L → NumV K H nv 0 (some (((cntG t L 0 (S.drop 1) (m - 1) : Nat) : Int) - 1)) false) → q a S) : StartsV K H E CS CN v tv mv q := by
  obtain ⟨a, S, e1, e2, hg, h⟩ := h
  refine .inr (.inr ⟨a, S, e1, e2, by have := hg.1; omega, .inr ⟨hg, ?_⟩⟩)
  rcases h with ⟨rfl, h⟩ | ⟨t, rfl, ht, ⟨rfl, h⟩ | ⟨rfl, rfl, m, rfl, h1, h2, h⟩⟩
  · exact ⟨false, h, fun _ => e, (fun z => nomatch z)⟩
  · exact ⟨true, .inl ⟨t, rfl, (decide_eq_true ⟨by omega, fun j h => nomatch h⟩).symm⟩, (fun z => nomatch z), fun _ => ⟨false, h, fun _ => e, (fun z => nomatch z)⟩⟩
  · exact Behind.good ht h1 h2 (h5 a S t m rfl rfl rfl rfl ht h1 h2 h)
local macro_rules | `(tactic| walk_at "go") => `(tactic| repeat (first | (with_reducible first | refine iteT ?_ | refine iteF ?_ | refine iteNtt ?_ | refine iteNff ?_ | refine iteET (by omega) ?_ | refine iteEF (by omega) ?_ | refine iteENT (by omega) ?_ | refine iteENF (by omega) ?_ | refine iteDT (by omega) ?_ | refine iteDF (by omega) ?_ | refine iteNT (by omega) ?_ | refine iteNF (by omega) ?_) | refine ⟨_, rfl, ?_⟩ | refine ⟨_, _, rfl, rfl, ?_⟩ | refine ⟨_, _, rfl, ?_⟩ | refine ⟨rfl, ?_⟩ | refine .inl ⟨_, rfl, ?_⟩ | refine .inr ⟨_, rfl, ?_⟩))
local macro_rules | `(tactic| walk_at "b") => `(tactic| try dsimp (config := { proj := false, iota := false, eta := false, zeta := false }) only)
section
variable {P : Program} {w : World} {K : PySem.W.Frag} {mg : Str → Option Value} {base : Heap} [pf : Sup.PF P fileS]
def sp_law_caught (K : PySem.W.Frag) : Sp := fun vs H Q _ => ∃ (k : Nat) (v tv mv nv : V), vs = [.int k, v, tv, mv, nv] ∧ k < 6 ∧
  ((BadS K H v ∧ ∀ H' a, Same H H' → H a = none → H' a = some (.lst [.str (("starts" : String) : Str), v]) → Q (.ref a) H') ∨
   ∃ u, NumWrong K H v tv mv nv k u ∧ ∀ H' a, Same H H' → H a = none → H' a = some (.lst [.str (("number" : String) : Str), u]) → Q (.ref a) H')
theorem G_law_caught (T : Top K mg) : FnOk P w K mg base CX0 8 T.f_law_caught T.fd_law_caught ["_law_way", "_law_starts_here", "_law_total", "_law_many", "_law_number"] (sp_law_caught K) := by
  refine T.F_law_caught.ok sc_law_caught (fun vs H Q E h => by obtain ⟨k, v, tv, mv, nv, rfl, _⟩ := h; rfl) (fun cdv A outer s H vs Q E hr h => ?_)
  obtain ⟨k, v, tv, mv, nv, rfl, hk, h⟩ := h
  refine ⟨_, PSs.nox (pss_cons (ps_set (i := 5) sc_law_caught.nd rfl (by first | exact Or.inl rfl | exact Or.inr rfl) (pe_lst (pa_cons pe_str (pa_cons pe_non pa_nil))))
  (pss_cons (ps_try_manyAs (i := 6) rfl rfl sc_law_caught.nd rfl rfl takes_none5 (fun W pn xe tk po => (pss_one (ps_if (pt_cmpR op_eq (pv 0) pe_int (nomark _))
    (pss_one (ps_expr (pe_callS (G_least_step (P := P) T) (hr.mono (by decide)) (by rfl) T.g_least_step T.F_least_step.kp T.b_least_step (fun σ => passAt tk σ) (pa_cons (pv 1) (pa_cons (pv 2) (pa_cons (pv 3) pa_nil))))))
    (pss_one (ps_if (pt_cmpR op_eq (pv 0) pe_int (nomark _))
    (pss_one (ps_expr (pe_callS (G_table (P := P) T) (hr.mono (by decide)) (by rfl) T.g_table T.F_table.kp T.b_table (fun σ => passAt tk σ) (pa_cons (pv 1) (pa_cons (pv 2) (pa_cons (pv 3) pa_nil))))))
    (pss_one (ps_if (pt_cmpR op_eq (pv 0) pe_int (nomark _))
    (pss_one (ps_expr (pe_callS (G_how_many_tables (P := P) T) (hr.mono (by decide)) (by rfl) T.g_how_many_tables T.F_how_many_tables.kp T.b_how_many_tables (fun σ => passAt tk σ) (pa_cons (pv 1) (pa_cons (pv 2) (pa_cons (pv 3) pa_nil))))))
    (pss_one (ps_if (pt_cmpR op_eq (pv 0) pe_int (nomark _))
    (pss_one (ps_expr (pe_callS (G_table_paper (P := P) T) (hr.mono (by decide)) (by rfl) T.g_table_paper T.F_table_paper.kp T.b_table_paper (fun σ => passAt tk σ) (pa_cons (pv 1) (pa_cons (pv 2) (pa_cons (pv 3) pa_nil))))))
    (pss_one (ps_if (pt_cmpR op_eq (pv 0) pe_int (nomark _))
    (pss_one (ps_expr (pe_callS (G_is_table_paper (P := P) T) (hr.mono (by decide)) (by rfl) T.g_is_table_paper T.F_is_table_paper.kp T.b_is_table_paper (fun σ => passAt tk σ) (pa_cons (pv 1) (pa_cons (pv 2) (pa_cons (pv 3) (pa_cons pe_non pa_nil)))))))
    (pss_one (ps_expr (pe_callS (G_table_at (P := P) T) (hr.mono (by decide)) (by rfl) T.g_table_at T.F_table_at.kp T.b_table_at (fun σ => passAt tk σ) (pa_cons (pv 1) (pa_cons (pv 2) (pa_cons (pv 3) (pa_cons (pv 4) pa_nil))))))))))))))))))
    (HdsAs.cons ⟨by rfl, by decide, .inl T.gc_InvalidStarts⟩ (fun a oe cls d pn hz hf => (pss_one (ps_set (i := 5) sc_law_caught.nd rfl (by first | exact Or.inl rfl | exact Or.inr rfl) (pe_lst (pa_cons pe_str (pa_cons (pe_xfA hz hf (pv 6)) pa_nil)))))) (HdsAs.cons ⟨by rfl, by decide, .inl T.gc_InvalidNumber⟩ (fun a oe cls d pn hz hf => (pss_one (ps_set (i := 5) sc_law_caught.nd rfl (by first | exact Or.inl rfl | exact Or.inr rfl) (pe_lst (pa_cons pe_str (pa_cons (pe_xfA hz hf (pv 6)) pa_nil)))))) HdsAs.nil)))
  (pss_one (ps_ret (pv 5))))), ?_⟩
  refine ⟨(by show 2 ≤ sizeLine; decide), fun a0 na0 => ?_⟩
  obtain ⟨H1, e1, s1, ha1⟩ := fresh (.lst [V.str (("none" : String) : Str), V.non]) na0
  rw [e1]
  rcases h with ⟨hb, q⟩ | ⟨u, hb, q⟩
  · obtain rfl | rfl | rfl | rfl | rfl | rfl : k = 0 ∨ k = 1 ∨ k = 2 ∨ k = 3 ∨ k = 4 ∨ k = 5 := by omega
    · refine ⟨_, rfl, rfl, _, rfl, iteDT rfl ⟨_, rfl, _, rfl, _, rfl, v, tv, mv, rfl, StartsV.bad (hb.same s1) (fun H2 d s2 nd => ?_)⟩⟩
      refine ⟨true, T.em_InvalidStarts_InvalidStarts, fun _ a na => ?_, fun z => nomatch z⟩
      refine ⟨_, rfl, rfl, _, rfl, T.er_InvalidStarts.xf, T.er_InvalidStarts.sup.nov, d, _, _, rfl, upd_same, rfl, (by show 2 ≤ sizeLine; decide), fun p np => ?_⟩
      exact ⟨_, rfl, q _ p (((s1.trans s2).trans (same_upd nd)).trans (same_upd np)) (((s1.trans s2).trans (same_upd nd)).free np) upd_same⟩
    · refine ⟨_, rfl, rfl, _, rfl, iteDF (by intro z; cases z) ⟨_, rfl, rfl, _, rfl, iteDT rfl ⟨_, rfl, _, rfl, _, rfl, v, tv, mv, rfl, StartsV.bad (hb.same s1) (fun H2 d s2 nd => ?_)⟩⟩⟩
      refine ⟨true, T.em_InvalidStarts_InvalidStarts, fun _ a na => ?_, fun z => nomatch z⟩
      refine ⟨_, rfl, rfl, _, rfl, T.er_InvalidStarts.xf, T.er_InvalidStarts.sup.nov, d, _, _, rfl, upd_same, rfl, (by show 2 ≤ sizeLine; decide), fun p np => ?_⟩
      exact ⟨_, rfl, q _ p (((s1.trans s2).trans (same_upd nd)).trans (same_upd np)) (((s1.trans s2).trans (same_upd nd)).free np) upd_same⟩
    · refine ⟨_, rfl, rfl, _, rfl, iteDF (by intro z; cases z) ⟨_, rfl, rfl, _, rfl, iteDF (by intro z; cases z) ⟨_, rfl, rfl, _, rfl, iteDT rfl ⟨_, rfl, _, rfl, _, rfl, v, tv, mv, rfl, StartsV.bad (hb.same s1) (fun H2 d s2 nd => ?_)⟩⟩⟩⟩
      refine ⟨true, T.em_InvalidStarts_InvalidStarts, fun _ a na => ?_, fun z => nomatch z⟩
      refine ⟨_, rfl, rfl, _, rfl, T.er_InvalidStarts.xf, T.er_InvalidStarts.sup.nov, d, _, _, rfl, upd_same, rfl, (by show 2 ≤ sizeLine; decide), fun p np => ?_⟩
      exact ⟨_, rfl, q _ p (((s1.trans s2).trans (same_upd nd)).trans (same_upd np)) (((s1.trans s2).trans (same_upd nd)).free np) upd_same⟩
    · refine ⟨_, rfl, rfl, _, rfl, iteDF (by intro z; cases z) ⟨_, rfl, rfl, _, rfl, iteDF (by intro z; cases z) ⟨_, rfl, rfl, _, rfl, iteDF (by intro z; cases z) ⟨_, rfl, rfl, _, rfl, iteDT rfl ⟨_, rfl, _, rfl, _, rfl, v, tv, mv, rfl, StartsV.bad (hb.same s1) (fun H2 d s2 nd => ?_)⟩⟩⟩⟩⟩
      refine ⟨true, T.em_InvalidStarts_InvalidStarts, fun _ a na => ?_, fun z => nomatch z⟩
      refine ⟨_, rfl, rfl, _, rfl, T.er_InvalidStarts.xf, T.er_InvalidStarts.sup.nov, d, _, _, rfl, upd_same, rfl, (by show 2 ≤ sizeLine; decide), fun p np => ?_⟩
      exact ⟨_, rfl, q _ p (((s1.trans s2).trans (same_upd nd)).trans (same_upd np)) (((s1.trans s2).trans (same_upd nd)).free np) upd_same⟩
    · refine ⟨_, rfl, rfl, _, rfl, iteDF (by intro z; cases z) ⟨_, rfl, rfl, _, rfl, iteDF (by intro z; cases z) ⟨_, rfl, rfl, _, rfl, iteDF (by intro z; cases z) ⟨_, rfl, rfl, _, rfl, iteDF (by intro z; cases z) ⟨_, rfl, rfl, _, rfl, iteDT rfl ⟨_, rfl, _, rfl, _, rfl, v, tv, mv, .non, rfl, StartsV.bad (hb.same s1) (fun H2 d s2 nd => ?_)⟩⟩⟩⟩⟩⟩
      refine ⟨true, T.em_InvalidStarts_InvalidStarts, fun _ a na => ?_, fun z => nomatch z⟩
      refine ⟨_, rfl, rfl, _, rfl, T.er_InvalidStarts.xf, T.er_InvalidStarts.sup.nov, d, _, _, rfl, upd_same, rfl, (by show 2 ≤ sizeLine; decide), fun p np => ?_⟩
      exact ⟨_, rfl, q _ p (((s1.trans s2).trans (same_upd nd)).trans (same_upd np)) (((s1.trans s2).trans (same_upd nd)).free np) upd_same⟩
    · refine ⟨_, rfl, rfl, _, rfl, iteDF (by intro z; cases z) ⟨_, rfl, rfl, _, rfl, iteDF (by intro z; cases z) ⟨_, rfl, rfl, _, rfl, iteDF (by intro z; cases z) ⟨_, rfl, rfl, _, rfl, iteDF (by intro z; cases z) ⟨_, rfl, rfl, _, rfl, iteDF (by intro z; cases z) ⟨_, rfl, _, rfl, _, rfl, _, rfl, v, tv, mv, nv, rfl, StartsV.bad (hb.same s1) (fun H2 d s2 nd => ?_)⟩⟩⟩⟩⟩⟩
      refine ⟨true, T.em_InvalidStarts_InvalidStarts, fun _ a na => ?_, fun z => nomatch z⟩
      refine ⟨_, rfl, rfl, _, rfl, T.er_InvalidStarts.xf, T.er_InvalidStarts.sup.nov, d, _, _, rfl, upd_same, rfl, (by show 2 ≤ sizeLine; decide), fun p np => ?_⟩
      exact ⟨_, rfl, q _ p (((s1.trans s2).trans (same_upd nd)).trans (same_upd np)) (((s1.trans s2).trans (same_upd nd)).free np) upd_same⟩
  · obtain rfl | rfl | rfl | rfl | rfl | rfl : k = 0 ∨ k = 1 ∨ k = 2 ∨ k = 3 ∨ k = 4 ∨ k = 5 := by omega
    · refine ⟨_, rfl, rfl, _, rfl, iteDT rfl ⟨_, rfl, _, rfl, _, rfl, v, tv, mv, rfl, NumWrong.starts (hb.same s1) (fun H2 d s2 nd => ?_) (fun a S t m z => by cases z)⟩⟩
      refine ⟨false, T.em_InvalidNumber_InvalidStarts, (fun z => nomatch z), fun _ => ⟨true, T.em_InvalidNumber_InvalidNumber, fun _ a na => ?_, fun z => nomatch z⟩⟩
      refine ⟨_, rfl, rfl, _, rfl, T.er_InvalidNumber.xf, T.er_InvalidNumber.sup.nov, d, _, _, rfl, upd_same, rfl, (by show 2 ≤ sizeLine; decide), fun p np => ?_⟩
      exact ⟨_, rfl, q _ p (((s1.trans s2).trans (same_upd nd)).trans (same_upd np)) (((s1.trans s2).trans (same_upd nd)).free np) upd_same⟩
    · refine ⟨_, rfl, rfl, _, rfl, iteDF (by intro z; cases z) ⟨_, rfl, rfl, _, rfl, iteDT rfl ⟨_, rfl, _, rfl, _, rfl, v, tv, mv, rfl, NumWrong.starts (hb.same s1) (fun H2 d s2 nd => ?_) (fun a S t m z => by cases z)⟩⟩⟩
      refine ⟨false, T.em_InvalidNumber_InvalidStarts, (fun z => nomatch z), fun _ => ⟨true, T.em_InvalidNumber_InvalidNumber, fun _ a na => ?_, fun z => nomatch z⟩⟩
      refine ⟨_, rfl, rfl, _, rfl, T.er_InvalidNumber.xf, T.er_InvalidNumber.sup.nov, d, _, _, rfl, upd_same, rfl, (by show 2 ≤ sizeLine; decide), fun p np => ?_⟩
      exact ⟨_, rfl, q _ p (((s1.trans s2).trans (same_upd nd)).trans (same_upd np)) (((s1.trans s2).trans (same_upd nd)).free np) upd_same⟩
    · refine ⟨_, rfl, rfl, _, rfl, iteDF (by intro z; cases z) ⟨_, rfl, rfl, _, rfl, iteDF (by intro z; cases z) ⟨_, rfl, rfl, _, rfl, iteDT rfl ⟨_, rfl, _, rfl, _, rfl, v, tv, mv, rfl, NumWrong.starts (hb.same s1) (fun H2 d s2 nd => ?_) (fun a S t m z => by cases z)⟩⟩⟩⟩
      refine ⟨false, T.em_InvalidNumber_InvalidStarts, (fun z => nomatch z), fun _ => ⟨true, T.em_InvalidNumber_InvalidNumber, fun _ a na => ?_, fun z => nomatch z⟩⟩
      refine ⟨_, rfl, rfl, _, rfl, T.er_InvalidNumber.xf, T.er_InvalidNumber.sup.nov, d, _, _, rfl, upd_same, rfl, (by show 2 ≤ sizeLine; decide), fun p np => ?_⟩
      exact ⟨_, rfl, q _ p (((s1.trans s2).trans (same_upd nd)).trans (same_upd np)) (((s1.trans s2).trans (same_upd nd)).free np) upd_same⟩
    · refine ⟨_, rfl, rfl, _, rfl, iteDF (by intro z; cases z) ⟨_, rfl, rfl, _, rfl, iteDF (by intro z; cases z) ⟨_, rfl, rfl, _, rfl, iteDF (by intro z; cases z) ⟨_, rfl, rfl, _, rfl, iteDT rfl ⟨_, rfl, _, rfl, _, rfl, v, tv, mv, rfl, NumWrong.starts (hb.same s1) (fun H2 d s2 nd => ?_) (fun a S t m z => by cases z)⟩⟩⟩⟩⟩
      refine ⟨false, T.em_InvalidNumber_InvalidStarts, (fun z => nomatch z), fun _ => ⟨true, T.em_InvalidNumber_InvalidNumber, fun _ a na => ?_, fun z => nomatch z⟩⟩
      refine ⟨_, rfl, rfl, _, rfl, T.er_InvalidNumber.xf, T.er_InvalidNumber.sup.nov, d, _, _, rfl, upd_same, rfl, (by show 2 ≤ sizeLine; decide), fun p np => ?_⟩
      exact ⟨_, rfl, q _ p (((s1.trans s2).trans (same_upd nd)).trans (same_upd np)) (((s1.trans s2).trans (same_upd nd)).free np) upd_same⟩
    · refine ⟨_, rfl, rfl, _, rfl, iteDF (by intro z; cases z) ⟨_, rfl, rfl, _, rfl, iteDF (by intro z; cases z) ⟨_, rfl, rfl, _, rfl, iteDF (by intro z; cases z) ⟨_, rfl, rfl, _, rfl, iteDF (by intro z; cases z) ⟨_, rfl, rfl, _, rfl, iteDT rfl ⟨_, rfl, _, rfl, _, rfl, v, tv, mv, .non, rfl, NumWrong.starts (hb.same s1) (fun H2 d s2 nd => ?_) (fun a S t m z => by cases z)⟩⟩⟩⟩⟩⟩
      refine ⟨false, T.em_InvalidNumber_InvalidStarts, (fun z => nomatch z), fun _ => ⟨true, T.em_InvalidNumber_InvalidNumber, fun _ a na => ?_, fun z => nomatch z⟩⟩
      refine ⟨_, rfl, rfl, _, rfl, T.er_InvalidNumber.xf, T.er_InvalidNumber.sup.nov, d, _, _, rfl, upd_same, rfl, (by show 2 ≤ sizeLine; decide), fun p np => ?_⟩
      exact ⟨_, rfl, q _ p (((s1.trans s2).trans (same_upd nd)).trans (same_upd np)) (((s1.trans s2).trans (same_upd nd)).free np) upd_same⟩
    · refine ⟨_, rfl, rfl, _, rfl, iteDF (by intro z; cases z) ⟨_, rfl, rfl, _, rfl, iteDF (by intro z; cases z) ⟨_, rfl, rfl, _, rfl, iteDF (by intro z; cases z) ⟨_, rfl, rfl, _, rfl, iteDF (by intro z; cases z) ⟨_, rfl, rfl, _, rfl, iteDF (by intro z; cases z) ⟨_, rfl, _, rfl, _, rfl, _, rfl, v, tv, mv, nv, rfl, NumWrong.starts (hb.same s1) (fun H2 d s2 nd => ?_) ?_⟩⟩⟩⟩⟩⟩
      · skip
        refine ⟨false, T.em_InvalidNumber_InvalidStarts, (fun z => nomatch z), fun _ => ⟨true, T.em_InvalidNumber_InvalidNumber, fun _ a na => ?_, fun z => nomatch z⟩⟩
        refine ⟨_, rfl, rfl, _, rfl, T.er_InvalidNumber.xf, T.er_InvalidNumber.sup.nov, d, _, _, rfl, upd_same, rfl, (by show 2 ≤ sizeLine; decide), fun p np => ?_⟩
        exact ⟨_, rfl, q _ p (((s1.trans s2).trans (same_upd nd)).trans (same_upd np)) (((s1.trans s2).trans (same_upd nd)).free np) upd_same⟩
      · intro a S t m _ eu et em ht h1 h2 hn
        refine ⟨t, m, et, em, ht, h1, h2, fun L hL => .inr ⟨hn L hL, ?_⟩⟩
        rw [← eu]
        intro H2 d s2 nd
        refine ⟨false, T.em_InvalidNumber_InvalidStarts, (fun z => nomatch z), fun _ => ⟨true, T.em_InvalidNumber_InvalidNumber, fun _ a na => ?_, fun z => nomatch z⟩⟩
        refine ⟨_, rfl, rfl, _, rfl, T.er_InvalidNumber.xf, T.er_InvalidNumber.sup.nov, d, _, _, rfl, upd_same, rfl, (by show 2 ≤ sizeLine; decide), fun p np => ?_⟩
        exact ⟨_, rfl, q _ p (((s1.trans s2).trans (same_upd nd)).trans (same_upd np)) (((s1.trans s2).trans (same_upd nd)).free np) upd_same⟩
end
end My

namespace My
open PySem PySem.Spec PyProof.Rows L2 Pre
/-! ### all that is refused -/
/-- what is shown of a thing -/
def Shw (K : PySem.W.Frag) (H : Hp) (x : V) (t : Str) : Prop := (∃ d, Dp K H x d ∧ d.showable = true ∧ SeqAt.shaped d = true ∧ d.shown.length ≤ sizeLine ∧ t = d.shown) ∨ ∃ a : Addr, x = .ref a ∧ H a = some (.dK []) ∧ t = (PyData.dict []).shown
theorem Shw.same {K : PySem.W.Frag} {H H' : Hp} {x : V} {t : Str} (s : Same H H') (h : Shw K H x t) : Shw K H' x t := by
  rcases h with ⟨d, hd, h⟩ | ⟨a, e, ha, h⟩
  · exact .inl ⟨d, Pre.dp_same s _ _ hd, h⟩
  · exact .inr ⟨a, e, s _ _ ha, h⟩
theorem Shw.repr {K : PySem.W.Frag} {H : Hp} {x : V} {t : Str} {Q : VK} (h : Shw K H x t) (q : Q (.str t) H) : rReprX K [x] H Q := by
  rcases h with ⟨d, hd, h1, h2, h3, rfl⟩ | ⟨a, rfl, ha, rfl⟩
  · exact .inl ⟨x, d, rfl, hd, h1, h2, h3, q⟩
  · exact .inr ⟨a, rfl, ha, q⟩
theorem shx_ok {K : PySem.W.Frag} {H : Hp} {x : V} {d : PyData} (hd : Dp K H x d) (h : (d.showable && SeqAt.shaped d && decide (d.shown.length ≤ sizeLine)) = true) : ∃ t, Shw K H x t := by
  rw [Bool.and_eq_true, Bool.and_eq_true] at h
  exact ⟨_, .inl ⟨d, hd, h.1.1, h.1.2, of_decide_eq_true h.2, rfl⟩⟩
theorem shx_dict {K : PySem.W.Frag} {H : Hp} {a : Addr} (h : H a = some (.dK [])) : ∃ t, Shw K H (.ref a) t := ⟨_, .inr ⟨a, rfl, h, rfl⟩⟩
/-- a pair that tells what was refused -/
def Told (tag : Str) (x : V) (D : Addr) (y : V) (H : Hp) : Prop := ∃ a : Addr, y = .ref a ∧ a ≠ D ∧ H a = some (.lst [.str tag, x])
theorem Told.mono {tag : Str} {x y : V} {D : Addr} {H H' : Hp} (o : Off D H H') (h : Told tag x D y H) : Told tag x D y H' := by
  obtain ⟨a, e, n, ha⟩ := h
  exact ⟨a, e, n, o _ _ n ha⟩
theorem at1 {α : Type} (x y : α) (r : List α) : atI (x :: y :: r) 1 = some y := atI_nat (xs := x :: y :: r) (j := 1) rfl
theorem item_bl {K : PySem.W.Frag} {H : Hp} (b : Bool) : Item K H (.bl b) := .inr ⟨rfl, .inl ⟨b, rfl⟩, .bool b, .bl b, rfl, by rw [PyData.depth]; decide⟩
theorem item_non {K : PySem.W.Frag} {H : Hp} : Item K H .non := .inr ⟨rfl, .inr ⟨_, .base .non, by decide +kernel⟩, .none, .non, rfl, by rw [PyData.depth]; decide⟩
theorem item_str {K : PySem.W.Frag} {H : Hp} (s : Str) (h : PyData.strOk s = true) : Item K H (.str s) := .inr ⟨rfl, .inr ⟨_, .base (.str _), by decide +kernel⟩, .str s, .str s, h, by rw [PyData.depth]; decide⟩
theorem items1 {K : PySem.W.Frag} {H : Hp} {x : V} (h : Item K H x) : ∀ y ∈ [x], Item K H y := fun y hy => by rw [List.mem_singleton.mp hy]; exact h
theorem fm_noneN {α β : Type} (l : List α) : (l.map fun _ => (none : Option β)).filterMap id = [] := by
  induction l with
  | nil => rfl
  | cons n r ih => simp
theorem good04 : GoodI [0, 4] := ⟨by decide, by decide, _, rfl⟩
theorem cnt04 {L : Int} (h : bst 5 0 (([0, 4] : List Int).drop 1) (2 - 1) = some L) : cntG 5 L 0 (([0, 4] : List Int).drop 1) (2 - 1) = 1 := by
  have e : bst 5 0 (([0, 4] : List Int).drop 1) (2 - 1) = some 4 := by decide
  rw [e] at h
  cases h
  decide
theorem rg61 : rgV 0 61 = ((List.range 61).map fun n => ((n : Nat) : Int)).map V.int := by decide +kernel
local macro_rules | `(tactic| walk_at "go") => `(tactic| repeat (first | (with_reducible first | refine iteT ?_ | refine iteF ?_ | refine iteNtt ?_ | refine iteNff ?_ | refine iteET (by omega) ?_ | refine iteEF (by omega) ?_ | refine iteENT (by omega) ?_ | refine iteENF (by omega) ?_ | refine iteDT (by omega) ?_ | refine iteDF (by omega) ?_ | refine iteNT (by omega) ?_ | refine iteNF (by omega) ?_) | refine ⟨_, rfl, ?_⟩ | refine ⟨_, _, rfl, rfl, ?_⟩ | refine ⟨_, _, rfl, ?_⟩ | refine ⟨rfl, ?_⟩ | refine .inl ⟨_, rfl, ?_⟩ | refine .inr ⟨_, rfl, ?_⟩))
local macro_rules | `(tactic| walk_at "b") => `(tactic| try dsimp (config := { proj := false, iota := false, eta := false, zeta := false }) only)
section
variable {P : Program} {w : World} {K : PySem.W.Frag} {mg : Str → Option Value} {base : Heap} [pf : Sup.PF P fileS]
def sp_law_refused : Sp := fun vs H Q _ => vs = [] ∧ ∀ H', Same H H' → Q (.bl true) H'
theorem G_law_refused (T : Top K mg) : FnG P w K mg base CX0 9 T.f_law_refused T.fd_law_refused [] sp_law_refused := by
  refine FnG.body T.F_law_refused sc_law_refused (fun vs H Q E h => by obtain ⟨rfl, _⟩ := h; rfl) (fun cdv A outer s H vs Q E gd hr h => ?_)
  obtain ⟨rfl, q⟩ := h
  refine ⟨_, PSs.nox (pss_cons (ps_for PassesOwn.never rfl (k_piL K rfl (pe_lst (pa_cons pe_non (pa_cons pe_int (pa_cons (pe_tup pa_nil) (pa_cons (pe_lst pa_nil) (pa_cons (pe_tup (pa_cons pe_int (pa_cons pe_int pa_nil))) (pa_cons (pe_lst (pa_cons pe_int pa_nil)) (pa_cons (pe_lst (pa_cons pe_int (pa_cons pe_int pa_nil))) (pa_cons (pe_lst (pa_cons pe_int (pa_cons pe_int (pa_cons pe_int pa_nil)))) (pa_cons (pe_lst (pa_cons pe_bl pa_nil)) (pa_cons (pe_lst (pa_cons pe_non pa_nil)) (pa_cons (pe_lst (pa_cons pe_str pa_nil)) (pa_cons (pe_lst (pa_cons pe_int (pa_cons (pe_un un_neg pe_int) pa_nil))) (pa_cons pe_dnewK (pa_cons (pe_listRg rfl (by rfl) T.n_list (prg_1 (by rfl) T.n_range pe_int)) pa_nil)))))))))))))))) (pg_name (i := 0) sc_law_refused.nd rfl (by first | exact Or.inl rfl | exact Or.inr rfl))
    (pss_cons (ps_setLc (i := 1) (own := [("_law_way", 2)]) (g := gName 2) (tt := tYes) (by rfl) sc_law_refused.nd rfl rfl (sw_true rfl rfl rfl (by decide +kernel)) (pi_range1 (by rfl) T.n_range (pa_cons pe_int pa_nil)) (blkOk_by (own := [("_law_way", 2)]) (N := N_law_refused) (sc := defScope s_law_refused) (by decide +kernel)) (fun _ _ _ _ _ => (pg_name (i := 2) sc_law_refused.nd rfl (by first | exact Or.inl rfl | exact Or.inr rfl))) (fun _ _ _ _ _ => pts_nil) (fun _ _ _ _ _ => (pe_call (G_law_caught (P := P) T) (hr.mono (by decide)) (by rfl) T.g_law_caught T.F_law_caught.kp T.b_law_caught .nil pass0 (pa_cons (pv 2) (pa_cons (pv 0) (pa_cons pe_non (pa_cons pe_non (pa_cons pe_non pa_nil))))))))
  (pss_one (ps_if (pt_cmpR (k_neD K rfl hr.units) (pe_lc (own := [("_law_one", 3)]) (g := gName 3) (by rfl) sc_law_refused.nd (k_piL K rfl (pv 1)) (blkOk_by (own := [("_law_one", 3)]) (N := N_law_refused) (sc := defScope s_law_refused) (by decide +kernel)) (fun _ _ _ _ _ => (pg_name (i := 3) sc_law_refused.nd rfl (by first | exact Or.inl rfl | exact Or.inr rfl))) (fun _ _ _ _ _ => (pts_one (PW.pt (pw_or (pt_cmpR op_ne (pe_ix (k_ixL K rfl) (pv 3) pe_int (fun _ _ => rfl)) pe_str (nomark _)) (pw_or1 (pt_cmpR op_ne (pe_callB (k_reprX K rfl gd (hu65 hr)) (by rfl) T.n_repr (by decide +kernel) (pa_cons (pe_ix (k_ixL K rfl) (pv 3) pe_int (fun _ _ => rfl)) pa_nil)) (pe_callB (k_reprX K rfl gd (hu65 hr)) (by rfl) T.n_repr (by decide +kernel) (pa_cons (pv 0) pa_nil)) (nomark _))))))) (fun _ _ _ _ _ => (pv 3))) (pe_lst pa_nil) (nomark _))
    (pss_one (ps_ret pe_bl))
    pss_nil))))
  (pss_cons (ps_for PassesOwn.never rfl (k_piL K rfl (pe_lst (pa_cons pe_non (pa_cons pe_int (pa_cons (pe_un un_neg pe_int) (pa_cons pe_str (pa_cons pe_bl (pa_cons (pe_lst (pa_cons pe_int pa_nil)) (pa_cons (pe_tup (pa_cons pe_int (pa_cons pe_int pa_nil))) pa_nil))))))))) (pg_name (i := 0) sc_law_refused.nd rfl (by first | exact Or.inl rfl | exact Or.inr rfl))
    (pss_cons (ps_setLc (i := 1) (own := [("_law_way", 2)]) (g := gName 2) (tt := tYes) (by rfl) sc_law_refused.nd rfl rfl (sw_true rfl rfl rfl (by decide +kernel)) (pi_range1 (by rfl) T.n_range (pa_cons pe_int pa_nil)) (blkOk_by (own := [("_law_way", 2)]) (N := N_law_refused) (sc := defScope s_law_refused) (by decide +kernel)) (fun _ _ _ _ _ => (pg_name (i := 2) sc_law_refused.nd rfl (by first | exact Or.inl rfl | exact Or.inr rfl))) (fun _ _ _ _ _ => pts_nil) (fun _ _ _ _ _ => (pe_call (G_law_caught (P := P) T) (hr.mono (by decide)) (by rfl) T.g_law_caught T.F_law_caught.kp T.b_law_caught .nil pass0 (pa_cons (pv 2) (pa_cons (pe_lst (pa_cons pe_int (pa_cons pe_int pa_nil))) (pa_cons (pv 0) (pa_cons pe_non (pa_cons pe_non pa_nil))))))))
  (pss_one (ps_if (pt_cmpR (k_neD K rfl hr.units) (pe_lc (own := [("_law_one", 3)]) (g := gName 3) (by rfl) sc_law_refused.nd (k_piL K rfl (pv 1)) (blkOk_by (own := [("_law_one", 3)]) (N := N_law_refused) (sc := defScope s_law_refused) (by decide +kernel)) (fun _ _ _ _ _ => (pg_name (i := 3) sc_law_refused.nd rfl (by first | exact Or.inl rfl | exact Or.inr rfl))) (fun _ _ _ _ _ => (pts_one (PW.pt (pw_or (pt_cmpR op_ne (pe_ix (k_ixL K rfl) (pv 3) pe_int (fun _ _ => rfl)) pe_str (nomark _)) (pw_or1 (pt_cmpR op_ne (pe_callB (k_reprX K rfl gd (hu65 hr)) (by rfl) T.n_repr (by decide +kernel) (pa_cons (pe_ix (k_ixL K rfl) (pv 3) pe_int (fun _ _ => rfl)) pa_nil)) (pe_callB (k_reprX K rfl gd (hu65 hr)) (by rfl) T.n_repr (by decide +kernel) (pa_cons (pv 0) pa_nil)) (nomark _))))))) (fun _ _ _ _ _ => (pv 3))) (pe_lst pa_nil) (nomark _))
    (pss_one (ps_ret pe_bl))
    pss_nil))))
  (pss_cons (ps_for PassesOwn.never rfl (k_piL K rfl (pe_lst (pa_cons pe_non (pa_cons pe_int (pa_cons pe_int (pa_cons pe_str (pa_cons pe_bl (pa_cons (pe_lst (pa_cons pe_int pa_nil)) (pa_cons (pe_op op_powW pe_int pe_int) pa_nil))))))))) (pg_name (i := 0) sc_law_refused.nd rfl (by first | exact Or.inl rfl | exact Or.inr rfl))
    (pss_cons (ps_setLc (i := 1) (own := [("_law_way", 2)]) (g := gName 2) (tt := tYes) (by rfl) sc_law_refused.nd rfl rfl (sw_true rfl rfl rfl (by decide +kernel)) (pi_range1 (by rfl) T.n_range (pa_cons pe_int pa_nil)) (blkOk_by (own := [("_law_way", 2)]) (N := N_law_refused) (sc := defScope s_law_refused) (by decide +kernel)) (fun _ _ _ _ _ => (pg_name (i := 2) sc_law_refused.nd rfl (by first | exact Or.inl rfl | exact Or.inr rfl))) (fun _ _ _ _ _ => pts_nil) (fun _ _ _ _ _ => (pe_call (G_law_caught (P := P) T) (hr.mono (by decide)) (by rfl) T.g_law_caught T.F_law_caught.kp T.b_law_caught .nil pass0 (pa_cons (pv 2) (pa_cons (pe_lst (pa_cons pe_int (pa_cons pe_int pa_nil))) (pa_cons pe_int (pa_cons (pv 0) (pa_cons pe_non pa_nil))))))))
  (pss_one (ps_if (pt_cmpR (k_neD K rfl hr.units) (pe_lc (own := [("_law_one", 3)]) (g := gName 3) (by rfl) sc_law_refused.nd (k_piL K rfl (pv 1)) (blkOk_by (own := [("_law_one", 3)]) (N := N_law_refused) (sc := defScope s_law_refused) (by decide +kernel)) (fun _ _ _ _ _ => (pg_name (i := 3) sc_law_refused.nd rfl (by first | exact Or.inl rfl | exact Or.inr rfl))) (fun _ _ _ _ _ => (pts_one (PW.pt (pw_or (pt_cmpR op_ne (pe_ix (k_ixL K rfl) (pv 3) pe_int (fun _ _ => rfl)) pe_str (nomark _)) (pw_or1 (pt_cmpR op_ne (pe_callB (k_reprX K rfl gd (hu65 hr)) (by rfl) T.n_repr (by decide +kernel) (pa_cons (pe_ix (k_ixL K rfl) (pv 3) pe_int (fun _ _ => rfl)) pa_nil)) (pe_callB (k_reprX K rfl gd (hu65 hr)) (by rfl) T.n_repr (by decide +kernel) (pa_cons (pv 0) pa_nil)) (nomark _))))))) (fun _ _ _ _ _ => (pv 3))) (pe_lst pa_nil) (nomark _))
    (pss_one (ps_ret pe_bl))
    pss_nil))))
  (pss_cons (ps_for PassesOwn.never rfl (k_piL K rfl (pe_lst (pa_cons pe_non (pa_cons pe_int (pa_cons (pe_un un_neg pe_int) (pa_cons pe_str (pa_cons pe_bl (pa_cons (pe_lst (pa_cons pe_int pa_nil)) pa_nil)))))))) (pg_name (i := 0) sc_law_refused.nd rfl (by first | exact Or.inl rfl | exact Or.inr rfl))
    (pss_cons (ps_set (i := 1) sc_law_refused.nd rfl (by first | exact Or.inl rfl | exact Or.inr rfl) (pe_call (G_law_caught (P := P) T) (hr.mono (by decide)) (by rfl) T.g_law_caught T.F_law_caught.kp T.b_law_caught .nil pass0 (pa_cons pe_int (pa_cons (pe_lst (pa_cons pe_int (pa_cons pe_int pa_nil))) (pa_cons pe_int (pa_cons pe_int (pa_cons (pv 0) pa_nil)))))))
  (pss_one (ps_if (PW.pt (pw_or (pt_cmpR op_ne (pe_ix (k_ixL K rfl) (pv 1) pe_int (fun _ _ => rfl)) pe_str (nomark _)) (pw_or1 (pt_cmpR op_ne (pe_callB (k_reprX K rfl gd (hu65 hr)) (by rfl) T.n_repr (by decide +kernel) (pa_cons (pe_ix (k_ixL K rfl) (pv 1) pe_int (fun _ _ => rfl)) pa_nil)) (pe_callB (k_reprX K rfl gd (hu65 hr)) (by rfl) T.n_repr (by decide +kernel) (pa_cons (pv 0) pa_nil)) (nomark _)))))
    (pss_one (ps_ret pe_bl))
    pss_nil))))
  (pss_one (ps_ret pe_bl)))))), ?_⟩
  refine ⟨(by show 0 ≤ sizeLine; decide), fun a1 na1 => ?_⟩
  obtain ⟨Ha1, ea1, sa1, ha1⟩ := fresh (.tup ([] : List V)) na1
  rw [ea1]
  refine ⟨(by show 0 ≤ sizeLine; decide), fun a2 na2 => ?_⟩
  obtain ⟨Ha2, ea2, sa2, ha2⟩ := fresh (.lst ([] : List V)) na2
  rw [ea2]
  refine ⟨(by show 2 ≤ sizeLine; decide), fun a3 na3 => ?_⟩
  obtain ⟨Ha3, ea3, sa3, ha3⟩ := fresh (.tup [V.int 0, .int 1]) na3
  rw [ea3]
  refine ⟨(by show 1 ≤ sizeLine; decide), fun a4 na4 => ?_⟩
  obtain ⟨Ha4, ea4, sa4, ha4⟩ := fresh (.lst [V.int 1]) na4
  rw [ea4]
  refine ⟨(by show 2 ≤ sizeLine; decide), fun a5 na5 => ?_⟩
  obtain ⟨Ha5, ea5, sa5, ha5⟩ := fresh (.lst [V.int 0, .int 0]) na5
  rw [ea5]
  refine ⟨(by show 3 ≤ sizeLine; decide), fun a6 na6 => ?_⟩
  obtain ⟨Ha6, ea6, sa6, ha6⟩ := fresh (.lst [V.int 0, .int 2, .int 1]) na6
  rw [ea6]
  refine ⟨(by show 1 ≤ sizeLine; decide), fun a7 na7 => ?_⟩
  obtain ⟨Ha7, ea7, sa7, ha7⟩ := fresh (.lst [V.bl true]) na7
  rw [ea7]
  refine ⟨(by show 1 ≤ sizeLine; decide), fun a8 na8 => ?_⟩
  obtain ⟨Ha8, ea8, sa8, ha8⟩ := fresh (.lst [V.non]) na8
  rw [ea8]
  refine ⟨(by show 1 ≤ sizeLine; decide), fun a9 na9 => ?_⟩
  obtain ⟨Ha9, ea9, sa9, ha9⟩ := fresh (.lst [V.str (("0" : String) : Str)]) na9
  rw [ea9]
  refine ⟨_, rfl, (by show 2 ≤ sizeLine; decide), fun a10 na10 => ?_⟩
  obtain ⟨Ha10, ea10, sa10, ha10⟩ := fresh (.lst [V.int 0, .int (-1)]) na10
  rw [ea10]
  refine fun a11 na11 => ?_
  obtain ⟨Ha11, ea11, sa11, ha11⟩ := fresh (.dK []) na11
  rw [ea11]
  refine ⟨_, rfl, ⟨by decide, by decide, by decide, by decide, by decide⟩, fun a12 na12 => ?_⟩
  obtain ⟨Ha12, ea12, sa12, ha12⟩ := fresh (.lst (rgV 0 61)) na12
  rw [ea12]
  rw [rg61] at ha12
  refine ⟨(by show 14 ≤ sizeLine; decide), fun a13 na13 => ?_⟩
  obtain ⟨Ha13, ea13, sa13, ha13⟩ := fresh (.lst [V.non, .int 0, .ref a1, .ref a2, .ref a3, .ref a4, .ref a5, .ref a6, .ref a7, .ref a8, .ref a9, .ref a10, .ref a11, .ref a12]) na13
  rw [ea13]
  have f1 : ∀ x ∈ [V.non, .int 0, .ref a1, .ref a2, .ref a3, .ref a4, .ref a5, .ref a6, .ref a7, .ref a8, .ref a9, .ref a10, .ref a11, .ref a12], (BadS K Ha13 x) ∧ ∃ t, Shw K Ha13 x t := by
    intro x hx
    simp only [List.mem_cons, List.not_mem_nil, or_false] at hx
    rcases hx with rfl | rfl | rfl | rfl | rfl | rfl | rfl | rfl | rfl | rfl | rfl | rfl | rfl | rfl
    · exact ⟨.inl ⟨_, .base .non, by decide +kernel⟩, shx_ok .non (by decide +kernel)⟩
    · exact ⟨.inl ⟨_, .base (.int _), by decide +kernel⟩, shx_ok (.int _) (by decide +kernel)⟩
    · exact ⟨.inl ⟨_, .base (.tup (sa13 _ _ (sa12 _ _ (sa11 _ _ (sa10 _ _ (sa9 _ _ (sa8 _ _ (sa7 _ _ (sa6 _ _ (sa5 _ _ (sa4 _ _ (sa3 _ _ (sa2 _ _ ha1))))))))))))), by decide +kernel⟩, shx_ok (.tup (.inl (.inl (sa13 _ _ (sa12 _ _ (sa11 _ _ (sa10 _ _ (sa9 _ _ (sa8 _ _ (sa7 _ _ (sa6 _ _ (sa5 _ _ (sa4 _ _ (sa3 _ _ (sa2 _ _ ha1)))))))))))))) .nil) (by decide +kernel)⟩
    · exact ⟨.inr (.inr ⟨a2, ([] : List Int), rfl, (sa13 _ _ (sa12 _ _ (sa11 _ _ (sa10 _ _ (sa9 _ _ (sa8 _ _ (sa7 _ _ (sa6 _ _ (sa5 _ _ (sa4 _ _ (sa3 _ _ ha2))))))))))), by decide, .inl rfl⟩), shx_ok (dp_row (ns := ([] : List Int)) (.inl (.inl (sa13 _ _ (sa12 _ _ (sa11 _ _ (sa10 _ _ (sa9 _ _ (sa8 _ _ (sa7 _ _ (sa6 _ _ (sa5 _ _ (sa4 _ _ (sa3 _ _ ha2)))))))))))))) (by decide +kernel)⟩
    · exact ⟨.inl ⟨_, .base (.tup (sa13 _ _ (sa12 _ _ (sa11 _ _ (sa10 _ _ (sa9 _ _ (sa8 _ _ (sa7 _ _ (sa6 _ _ (sa5 _ _ (sa4 _ _ ha3))))))))))), by decide +kernel⟩, shx_ok (.tup (.inl (.inl (sa13 _ _ (sa12 _ _ (sa11 _ _ (sa10 _ _ (sa9 _ _ (sa8 _ _ (sa7 _ _ (sa6 _ _ (sa5 _ _ (sa4 _ _ ha3)))))))))))) (.cons (.int _) (.cons (.int _) .nil))) (by decide +kernel)⟩
    · exact ⟨.inr (.inr ⟨a4, ([1] : List Int), rfl, (sa13 _ _ (sa12 _ _ (sa11 _ _ (sa10 _ _ (sa9 _ _ (sa8 _ _ (sa7 _ _ (sa6 _ _ (sa5 _ _ ha4))))))))), by decide, .inr (.inr (.inl ⟨_, _, rfl, by decide⟩))⟩), shx_ok (dp_row (ns := ([1] : List Int)) (.inl (.inl (sa13 _ _ (sa12 _ _ (sa11 _ _ (sa10 _ _ (sa9 _ _ (sa8 _ _ (sa7 _ _ (sa6 _ _ (sa5 _ _ ha4)))))))))))) (by decide +kernel)⟩
    · exact ⟨.inr (.inr ⟨a5, ([0, 0] : List Int), rfl, (sa13 _ _ (sa12 _ _ (sa11 _ _ (sa10 _ _ (sa9 _ _ (sa8 _ _ (sa7 _ _ (sa6 _ _ ha5)))))))), by decide, .inr (.inr (.inr (by decide)))⟩), shx_ok (dp_row (ns := ([0, 0] : List Int)) (.inl (.inl (sa13 _ _ (sa12 _ _ (sa11 _ _ (sa10 _ _ (sa9 _ _ (sa8 _ _ (sa7 _ _ (sa6 _ _ ha5))))))))))) (by decide +kernel)⟩
    · exact ⟨.inr (.inr ⟨a6, ([0, 2, 1] : List Int), rfl, (sa13 _ _ (sa12 _ _ (sa11 _ _ (sa10 _ _ (sa9 _ _ (sa8 _ _ (sa7 _ _ ha6))))))), by decide, .inr (.inr (.inr (by decide)))⟩), shx_ok (dp_row (ns := ([0, 2, 1] : List Int)) (.inl (.inl (sa13 _ _ (sa12 _ _ (sa11 _ _ (sa10 _ _ (sa9 _ _ (sa8 _ _ (sa7 _ _ ha6)))))))))) (by decide +kernel)⟩
    · exact ⟨.inr (.inl ⟨a7, _, rfl, (sa13 _ _ (sa12 _ _ (sa11 _ _ (sa10 _ _ (sa9 _ _ (sa8 _ _ ha7)))))), by decide, items1 (item_bl _), rfl⟩), shx_ok (.lst (.inl (.inl (sa13 _ _ (sa12 _ _ (sa11 _ _ (sa10 _ _ (sa9 _ _ (sa8 _ _ ha7)))))))) (.cons (.bl _) .nil)) (by decide +kernel)⟩
    · exact ⟨.inr (.inl ⟨a8, _, rfl, (sa13 _ _ (sa12 _ _ (sa11 _ _ (sa10 _ _ (sa9 _ _ ha8))))), by decide, items1 (item_non), rfl⟩), shx_ok (.lst (.inl (.inl (sa13 _ _ (sa12 _ _ (sa11 _ _ (sa10 _ _ (sa9 _ _ ha8))))))) (.cons .non .nil)) (by decide +kernel)⟩
    · exact ⟨.inr (.inl ⟨a9, _, rfl, (sa13 _ _ (sa12 _ _ (sa11 _ _ (sa10 _ _ ha9)))), by decide, items1 (item_str _ (by decide +kernel)), rfl⟩), shx_ok (.lst (.inl (.inl (sa13 _ _ (sa12 _ _ (sa11 _ _ (sa10 _ _ ha9)))))) (.cons (.str _) .nil)) (by decide +kernel)⟩
    · exact ⟨.inr (.inr ⟨a10, ([0, -1] : List Int), rfl, (sa13 _ _ (sa12 _ _ (sa11 _ _ ha10))), by decide, .inr (.inr (.inr (by decide)))⟩), shx_ok (dp_row (ns := ([0, -1] : List Int)) (.inl (.inl (sa13 _ _ (sa12 _ _ (sa11 _ _ ha10)))))) (by decide +kernel)⟩
    · exact ⟨.inl ⟨_, .base (.dK (sa13 _ _ (sa12 _ _ ha11))), by decide +kernel⟩, shx_dict (sa13 _ _ (sa12 _ _ ha11))⟩
    · exact ⟨.inr (.inr ⟨a12, ((List.range 61).map fun n => ((n : Nat) : Int)), rfl, (sa13 _ _ ha12), by decide, .inr (.inl (by decide))⟩), shx_ok (dp_row (.inl (.inl (sa13 _ _ ha12)))) (by decide +kernel)⟩
  have z1 := ((((((((((((sa1.trans sa2).trans sa3).trans sa4).trans sa5).trans sa6).trans sa7).trans sa8).trans sa9).trans sa10).trans sa11).trans sa12).trans sa13)
  refine ⟨a13, rfl, ⟨_, .inl (.inl ha13)⟩, for_list (K := K) (a := a13) (fun i σ HA => ∃ v0 v1 : Option V, σ = [v0, v1, none, none] ∧ Same Ha13 HA) ⟨_, _, rfl, Same.refl _⟩ (fun i σ HA _ ⟨_, _, _, s⟩ => .inl (.inl (s _ _ ha13))) ?_ ?_⟩
  · rintro i x σ HA hx ⟨v0, v1, rfl, sA⟩
    obtain ⟨hB, t, hS⟩ := f1 x (List.mem_of_getElem? hx)
    refine ⟨_, rfl, (by decide), (by decide), fun D nD => ?_⟩
    refine lc_relR (lo := 0) (n := ((6 : Int)).toNat) (fun _ y H => Told (("starts" : String) : Str) x D y H) nD (by decide) (fun _ _ _ _ o h => h.mono o) (fun x => rfl) ?_ ?_
    · intro j HB ys hj sB hDB Qt qt
      have hj6 : j < 6 := hj
      rw [Int.zero_add]
      exact ⟨_, rfl, _, rfl, j, x, .non, .non, .non, rfl, hj6, .inl ⟨(hB.same sA).same sB, fun HE a sE na ha => qt _ _ sE ⟨a, rfl, (ne_of_none hDB na).symm, ha⟩⟩⟩
    · intro HC ys sC hDC hlC hRC
      refine ⟨_, rfl, D, rfl, ⟨_, .inl (.inl hDC)⟩, fun D2 nD2 => ?_⟩
      have hl6 : ys.length = 6 := hlC
      refine lc_selL (K := K) (xs := ys) (ys.map fun _ => none) nD2 (.inl (.inl hDC)) (by rw [List.length_map]) (by rw [hl6]; decide) (fun x => rfl) ?_ ?_
      · intro k y o HD hy ho sD Qt qt
        rw [List.getElem?_map, hy] at ho
        cases ho
        obtain ⟨a, rfl, _, ha⟩ := hRC k y hy
        have haD := sD _ _ ha
        have hSD := ((hS.same sA).same sC).same sD
        refine ⟨_, rfl, a, _, _, .str (("starts" : String) : Str), rfl, rfl, .inl (.inl haD), at0 _ _, rfl, _, rfl, ?_⟩
        rw [decide_eq_true rfl]
        refine iteF ?_
        refine ⟨_, rfl, a, _, _, x, rfl, rfl, .inl (.inl haD), at1 _ _ _, hSD.repr ⟨_, rfl, hSD.repr ⟨rfl, _, rfl, ?_⟩⟩⟩
        rw [decide_eq_true rfl]
        exact iteF (qt _ (Same.refl _))
      · intro HD sD hDD
        rw [fm_noneN] at hDD
        refine ⟨Nat.zero_le _, fun p2 np2 => ?_⟩
        refine ne_lst (ns := []) (.inl (.inl (same_upd np2 _ _ hDD))) (.inl (.inl upd_same)) ⟨_, rfl, iteF ?_⟩
        exact ⟨_, _, rfl, ((sA.trans sC).trans sD).trans (same_upd np2)⟩
  · rintro σ HA ⟨v0, v1, rfl, sA⟩
    have y1 := sA
    refine ⟨_, rfl, (by show 1 ≤ sizeLine; decide), fun b1 nb1 => ?_⟩
    obtain ⟨Hb1, eb1, sb1, hb1⟩ := fresh (.lst [V.int 5]) nb1
    rw [eb1]
    refine ⟨(by show 2 ≤ sizeLine; decide), fun b2 nb2 => ?_⟩
    obtain ⟨Hb2, eb2, sb2, hb2⟩ := fresh (.tup [V.int 5, .int 1]) nb2
    rw [eb2]
    refine ⟨(by show 7 ≤ sizeLine; decide), fun b3 nb3 => ?_⟩
    obtain ⟨Hb3, eb3, sb3, hb3⟩ := fresh (.lst [V.non, .int 4, .int (-1), .str (("5" : String) : Str), .bl true, .ref b1, .ref b2]) nb3
    rw [eb3]
    have f2 : ∀ x ∈ [V.non, .int 4, .int (-1), .str (("5" : String) : Str), .bl true, .ref b1, .ref b2], (NumV K Hb3 x 5 none false) ∧ ∃ t, Shw K Hb3 x t := by
      intro x hx
      simp only [List.mem_cons, List.not_mem_nil, or_false] at hx
      rcases hx with rfl | rfl | rfl | rfl | rfl | rfl | rfl
      · exact ⟨.inr ⟨.inr ⟨_, .base .non, by decide +kernel⟩, rfl⟩, shx_ok .non (by decide +kernel)⟩
      · exact ⟨.inl ⟨4, rfl, (decide_eq_false fun z => absurd z.1 (by decide)).symm⟩, shx_ok (.int _) (by decide +kernel)⟩
      · exact ⟨.inl ⟨-1, rfl, (decide_eq_false fun z => absurd z.1 (by decide)).symm⟩, shx_ok (.int _) (by decide +kernel)⟩
      · exact ⟨.inr ⟨.inr ⟨_, .base (.str _), by decide +kernel⟩, rfl⟩, shx_ok (.str _) (by decide +kernel)⟩
      · exact ⟨.inr ⟨.inl ⟨_, rfl⟩, rfl⟩, shx_ok (.bl _) (by decide +kernel)⟩
      · exact ⟨.inr ⟨.inr ⟨_, .base (.lst (sb3 _ _ (sb2 _ _ hb1))), by decide +kernel⟩, rfl⟩, shx_ok (dp_row (ns := ([5] : List Int)) (.inl (.inl (sb3 _ _ (sb2 _ _ hb1))))) (by decide +kernel)⟩
      · exact ⟨.inr ⟨.inr ⟨_, .base (.tup (sb3 _ _ hb2)), by decide +kernel⟩, rfl⟩, shx_ok (.tup (.inl (.inl (sb3 _ _ hb2))) (.cons (.int _) (.cons (.int _) .nil))) (by decide +kernel)⟩
    have z2 := ((sb1.trans sb2).trans sb3)
    refine ⟨b3, rfl, ⟨_, .inl (.inl hb3)⟩, for_list (K := K) (a := b3) (fun i σ HA => ∃ v0 v1 : Option V, σ = [v0, v1, none, none] ∧ Same Hb3 HA) ⟨_, _, rfl, Same.refl _⟩ (fun i σ HA _ ⟨_, _, _, s⟩ => .inl (.inl (s _ _ hb3))) ?_ ?_⟩
    · rintro i x σ HA hx ⟨v0, v1, rfl, sA⟩
      obtain ⟨hB, t, hS⟩ := f2 x (List.mem_of_getElem? hx)
      refine ⟨_, rfl, (by decide), (by decide), fun D nD => ?_⟩
      refine lc_relR (lo := 0) (n := ((6 : Int)).toNat) (fun _ y H => Told (("number" : String) : Str) x D y H) nD (by decide) (fun _ _ _ _ o h => h.mono o) (fun x => rfl) ?_ ?_
      · intro j HB ys hj sB hDB Qt qt
        have hj6 : j < 6 := hj
        rw [Int.zero_add]
        refine ⟨_, rfl, ?_⟩
        refine ⟨(by show 2 ≤ sizeLine; decide), fun c nc => ?_⟩
        obtain ⟨HG, eG, sG, hc⟩ := fresh (.lst [V.int 0, V.int 4]) nc
        rw [eG]
        exact ⟨_, rfl, j, _, x, .non, .non, rfl, hj6, .inr ⟨x, ⟨c, [0, 4], rfl, hc, good04, .inl ⟨rfl, ((hB.same sA).same sB).same sG⟩⟩, fun HE a sE na ha => qt _ _ (sG.trans sE) ⟨a, rfl, (ne_of_none (sG _ _ hDB) na).symm, ha⟩⟩⟩
      · intro HC ys sC hDC hlC hRC
        refine ⟨_, rfl, D, rfl, ⟨_, .inl (.inl hDC)⟩, fun D2 nD2 => ?_⟩
        have hl6 : ys.length = 6 := hlC
        refine lc_selL (K := K) (xs := ys) (ys.map fun _ => none) nD2 (.inl (.inl hDC)) (by rw [List.length_map]) (by rw [hl6]; decide) (fun x => rfl) ?_ ?_
        · intro k y o HD hy ho sD Qt qt
          rw [List.getElem?_map, hy] at ho
          cases ho
          obtain ⟨a, rfl, _, ha⟩ := hRC k y hy
          have haD := sD _ _ ha
          have hSD := ((hS.same sA).same sC).same sD
          refine ⟨_, rfl, a, _, _, .str (("number" : String) : Str), rfl, rfl, .inl (.inl haD), at0 _ _, rfl, _, rfl, ?_⟩
          rw [decide_eq_true rfl]
          refine iteF ?_
          refine ⟨_, rfl, a, _, _, x, rfl, rfl, .inl (.inl haD), at1 _ _ _, hSD.repr ⟨_, rfl, hSD.repr ⟨rfl, _, rfl, ?_⟩⟩⟩
          rw [decide_eq_true rfl]
          exact iteF (qt _ (Same.refl _))
        · intro HD sD hDD
          rw [fm_noneN] at hDD
          refine ⟨Nat.zero_le _, fun p2 np2 => ?_⟩
          refine ne_lst (ns := []) (.inl (.inl (same_upd np2 _ _ hDD))) (.inl (.inl upd_same)) ⟨_, rfl, iteF ?_⟩
          exact ⟨_, _, rfl, ((sA.trans sC).trans sD).trans (same_upd np2)⟩
    · rintro σ HA ⟨v0, v1, rfl, sA⟩
      have y2 := sA
      refine ⟨(by show 1 ≤ sizeLine; decide), fun c1 nc1 => ?_⟩
      obtain ⟨Hc1, ec1, sc1, hc1⟩ := fresh (.lst [V.int 1]) nc1
      rw [ec1]
      refine ⟨_, _, rfl, rfl, ⟨by decide, by decide +kernel⟩, (by show 7 ≤ sizeLine; decide), fun c2 nc2 => ?_⟩
      obtain ⟨Hc2, ec2, sc2, hc2⟩ := fresh (.lst [V.non, .int 0, .int 3, .str (("1" : String) : Str), .bl true, .ref c1, .int (10 ^ (20 : Int).toNat)]) nc2
      rw [ec2]
      have f3 : ∀ x ∈ [V.non, .int 0, .int 3, .str (("1" : String) : Str), .bl true, .ref c1, .int (10 ^ (20 : Int).toNat)], (NumV K Hc2 x 1 (some (([0, 4] : List Int).length : Int)) false) ∧ ∃ t, Shw K Hc2 x t := by
        intro x hx
        simp only [List.mem_cons, List.not_mem_nil, or_false] at hx
        rcases hx with rfl | rfl | rfl | rfl | rfl | rfl | rfl
        · exact ⟨.inr ⟨.inr ⟨_, .base .non, by decide +kernel⟩, rfl⟩, shx_ok .non (by decide +kernel)⟩
        · exact ⟨.inl ⟨0, rfl, (decide_eq_false fun z => absurd z.1 (by decide)).symm⟩, shx_ok (.int _) (by decide +kernel)⟩
        · exact ⟨.inl ⟨3, rfl, (decide_eq_false fun z => absurd (z.2 _ rfl) (by decide)).symm⟩, shx_ok (.int _) (by decide +kernel)⟩
        · exact ⟨.inr ⟨.inr ⟨_, .base (.str _), by decide +kernel⟩, rfl⟩, shx_ok (.str _) (by decide +kernel)⟩
        · exact ⟨.inr ⟨.inl ⟨_, rfl⟩, rfl⟩, shx_ok (.bl _) (by decide +kernel)⟩
        · exact ⟨.inr ⟨.inr ⟨_, .base (.lst (sc2 _ _ hc1)), by decide +kernel⟩, rfl⟩, shx_ok (dp_row (ns := ([1] : List Int)) (.inl (.inl (sc2 _ _ hc1)))) (by decide +kernel)⟩
        · exact ⟨.inl ⟨_, rfl, (decide_eq_false fun z => absurd (z.2 _ rfl) (by decide +kernel)).symm⟩, shx_ok (.int _) (by decide +kernel)⟩
      have z3 := (sc1.trans sc2)
      refine ⟨c2, rfl, ⟨_, .inl (.inl hc2)⟩, for_list (K := K) (a := c2) (fun i σ HA => ∃ v0 v1 : Option V, σ = [v0, v1, none, none] ∧ Same Hc2 HA) ⟨_, _, rfl, Same.refl _⟩ (fun i σ HA _ ⟨_, _, _, s⟩ => .inl (.inl (s _ _ hc2))) ?_ ?_⟩
      · rintro i x σ HA hx ⟨v0, v1, rfl, sA⟩
        obtain ⟨hB, t, hS⟩ := f3 x (List.mem_of_getElem? hx)
        refine ⟨_, rfl, (by decide), (by decide), fun D nD => ?_⟩
        refine lc_relR (lo := 0) (n := ((6 : Int)).toNat) (fun _ y H => Told (("number" : String) : Str) x D y H) nD (by decide) (fun _ _ _ _ o h => h.mono o) (fun x => rfl) ?_ ?_
        · intro j HB ys hj sB hDB Qt qt
          have hj6 : j < 6 := hj
          rw [Int.zero_add]
          refine ⟨_, rfl, ?_⟩
          refine ⟨(by show 2 ≤ sizeLine; decide), fun c nc => ?_⟩
          obtain ⟨HG, eG, sG, hc⟩ := fresh (.lst [V.int 0, V.int 4]) nc
          rw [eG]
          exact ⟨_, rfl, j, _, .int 5, x, .non, rfl, hj6, .inr ⟨x, ⟨c, [0, 4], rfl, hc, good04, .inr ⟨5, rfl, by decide, .inl ⟨rfl, ((hB.same sA).same sB).same sG⟩⟩⟩, fun HE a sE na ha => qt _ _ (sG.trans sE) ⟨a, rfl, (ne_of_none (sG _ _ hDB) na).symm, ha⟩⟩⟩
        · intro HC ys sC hDC hlC hRC
          refine ⟨_, rfl, D, rfl, ⟨_, .inl (.inl hDC)⟩, fun D2 nD2 => ?_⟩
          have hl6 : ys.length = 6 := hlC
          refine lc_selL (K := K) (xs := ys) (ys.map fun _ => none) nD2 (.inl (.inl hDC)) (by rw [List.length_map]) (by rw [hl6]; decide) (fun x => rfl) ?_ ?_
          · intro k y o HD hy ho sD Qt qt
            rw [List.getElem?_map, hy] at ho
            cases ho
            obtain ⟨a, rfl, _, ha⟩ := hRC k y hy
            have haD := sD _ _ ha
            have hSD := ((hS.same sA).same sC).same sD
            refine ⟨_, rfl, a, _, _, .str (("number" : String) : Str), rfl, rfl, .inl (.inl haD), at0 _ _, rfl, _, rfl, ?_⟩
            rw [decide_eq_true rfl]
            refine iteF ?_
            refine ⟨_, rfl, a, _, _, x, rfl, rfl, .inl (.inl haD), at1 _ _ _, hSD.repr ⟨_, rfl, hSD.repr ⟨rfl, _, rfl, ?_⟩⟩⟩
            rw [decide_eq_true rfl]
            exact iteF (qt _ (Same.refl _))
          · intro HD sD hDD
            rw [fm_noneN] at hDD
            refine ⟨Nat.zero_le _, fun p2 np2 => ?_⟩
            refine ne_lst (ns := []) (.inl (.inl (same_upd np2 _ _ hDD))) (.inl (.inl upd_same)) ⟨_, rfl, iteF ?_⟩
            exact ⟨_, _, rfl, ((sA.trans sC).trans sD).trans (same_upd np2)⟩
      · rintro σ HA ⟨v0, v1, rfl, sA⟩
        have y3 := sA
        refine ⟨_, rfl, (by show 1 ≤ sizeLine; decide), fun d1 nd1 => ?_⟩
        obtain ⟨Hd1, ed1, sd1, hd1⟩ := fresh (.lst [V.int 0]) nd1
        rw [ed1]
        refine ⟨(by show 6 ≤ sizeLine; decide), fun d2 nd2 => ?_⟩
        obtain ⟨Hd2, ed2, sd2, hd2⟩ := fresh (.lst [V.non, .int 1, .int (-1), .str (("0" : String) : Str), .bl true, .ref d1]) nd2
        rw [ed2]
        have f4 : ∀ x ∈ [V.non, .int 1, .int (-1), .str (("0" : String) : Str), .bl true, .ref d1], (NumV K Hd2 x 0 (some (((1 : Nat) : Int) - 1)) false) ∧ ∃ t, Shw K Hd2 x t := by
          intro x hx
          simp only [List.mem_cons, List.not_mem_nil, or_false] at hx
          rcases hx with rfl | rfl | rfl | rfl | rfl | rfl
          · exact ⟨.inr ⟨.inr ⟨_, .base .non, by decide +kernel⟩, rfl⟩, shx_ok .non (by decide +kernel)⟩
          · exact ⟨.inl ⟨1, rfl, (decide_eq_false fun z => absurd (z.2 _ rfl) (by decide)).symm⟩, shx_ok (.int _) (by decide +kernel)⟩
          · exact ⟨.inl ⟨-1, rfl, (decide_eq_false fun z => absurd z.1 (by decide)).symm⟩, shx_ok (.int _) (by decide +kernel)⟩
          · exact ⟨.inr ⟨.inr ⟨_, .base (.str _), by decide +kernel⟩, rfl⟩, shx_ok (.str _) (by decide +kernel)⟩
          · exact ⟨.inr ⟨.inl ⟨_, rfl⟩, rfl⟩, shx_ok (.bl _) (by decide +kernel)⟩
          · exact ⟨.inr ⟨.inr ⟨_, .base (.lst (sd2 _ _ hd1)), by decide +kernel⟩, rfl⟩, shx_ok (dp_row (ns := ([0] : List Int)) (.inl (.inl (sd2 _ _ hd1)))) (by decide +kernel)⟩
        have z4 := (sd1.trans sd2)
        refine ⟨d2, rfl, ⟨_, .inl (.inl hd2)⟩, for_list (K := K) (a := d2) (fun i σ HA => ∃ v0 v1 : Option V, σ = [v0, v1, none, none] ∧ Same Hd2 HA) ⟨_, _, rfl, Same.refl _⟩ (fun i σ HA _ ⟨_, _, _, s⟩ => .inl (.inl (s _ _ hd2))) ?_ ?_⟩
        · rintro i x σ HA hx ⟨v0, v1, rfl, sA⟩
          obtain ⟨hB, t, hS⟩ := f4 x (List.mem_of_getElem? hx)
          refine ⟨(by show 2 ≤ sizeLine; decide), fun c nc => ?_⟩
          obtain ⟨HG, eG, sG, hc⟩ := fresh (.lst [V.int 0, V.int 4]) nc
          rw [eG]
          refine ⟨_, rfl, 5, _, .int 5, .int 2, x, rfl, by decide, .inr ⟨x, ⟨c, [0, 4], rfl, hc, good04, .inr ⟨5, rfl, by decide, .inr ⟨rfl, rfl, 2, rfl, by decide, by decide, fun L hL => ?_⟩⟩⟩, fun HE a sE na ha => ?_⟩⟩
          · rw [cnt04 hL]
            exact (hB.same sA).same sG
          · have hSD := ((hS.same sA).same sG).same sE
            refine ⟨_, rfl, a, _, _, .str (("number" : String) : Str), rfl, rfl, .inl (.inl ha), at0 _ _, rfl, _, rfl, ?_⟩
            rw [decide_eq_true rfl]
            refine iteF ?_
            refine ⟨_, rfl, a, _, _, x, rfl, rfl, .inl (.inl ha), at1 _ _ _, hSD.repr ⟨_, rfl, hSD.repr ⟨rfl, _, rfl, ?_⟩⟩⟩
            rw [decide_eq_true rfl]
            refine iteF ?_
            exact ⟨_, _, rfl, (sA.trans sG).trans sE⟩
        · rintro σ HA ⟨v0, v1, rfl, sA⟩
          exact q _ (((((((z1.trans y1).trans z2).trans y2).trans z3).trans y3).trans z4).trans sA)
end
end My

namespace My
open PySem PySem.Spec PyProof.Rows L2 Pre
/-! ### papers told and judged, from without -/
theorem PumpAt.tup {H : Hp} {g p : Addr} {xs : List V} (h : PumpAt H g) (n : H p = some (.tup xs)) : p ≠ g := fun e => by
  obtain ⟨ns, a, _⟩ := h
  rw [e, a] at n
  cases n
theorem refs_ints {ts : List Addr} {ns : List Int} (h : ts.map V.ref = ns.map V.int) : ns = [] := by
  cases ts with
  | nil => cases ns with
    | nil => rfl
    | cons n r => cases h
  | cons t r => cases ns with
    | nil => rfl
    | cons n r => cases h
theorem PumpAt.refs {H : Hp} {g p : Addr} {ts : List Addr} (h : PumpAt H g) (n : H p = some (.lst (ts.map V.ref))) : p ≠ g := fun e => by
  obtain ⟨ns, a, b⟩ := h
  rw [e, a] at n
  have := refs_ints (HO.lst.inj (Option.some.inj n)).symm
  rw [this] at b
  rcases b with b | b <;> cases b
theorem PrsAt.but {H H' : Hp} {g p : Addr} {ps : List (Int × Int)} (h : PrsAt H p ps) (hP : PumpAt H g) (b : But g H H') : PrsAt H' p ps := by
  obtain ⟨ts, h1, h2, h3⟩ := h
  exact ⟨ts, b _ _ (hP.refs h1) h1, h2, fun k t q x y => b _ _ (hP.tup (h3 k t q x y)) (h3 k t q x y)⟩
theorem repr_bl {K : PySem.W.Frag} {H : Hp} {b : Bool} {Q : VK} (q : Q (.str (PyData.bool b).shown) H) : rReprX K [.bl b] H Q :=
  .inl ⟨.bl b, .bool b, rfl, .bl b, by cases b <;> decide +kernel, by cases b <;> decide +kernel, by cases b <;> decide +kernel, q⟩
theorem right_starts {K : PySem.W.Frag} {CS CN : Addr} {H : Hp} {E : XK} {a : Addr} {S : List Int} {t : Int} {m : Nat} {q : Addr → List Int → Prop} (ha : H a = some (.lst (S.map V.int))) (hg : GoodI S) (ht : lastI S < t) (h1 : 1 ≤ m) (h2 : m ≤ S.length) (hq : q a S) : StartsV K H E CS CN (.ref a) (.int t) (.int m) q :=
  .inr (.inr ⟨a, S, rfl, ha, by have := hg.1; omega, .inr ⟨hg, Behind.good ht h1 h2 hq⟩⟩)
theorem only {α : Type} {o : Option α} {x y : α} (h : o = some x) (k : o = some y) : y = x := Option.some.inj (k.symm.trans h)
/-- what a paper tells -/
def ToldV (H : Hp) (S : List Int) (t L : Int) (m : Nat) (w : Str) (tv : V) : Prop := (w = "one" ∧ ∃ j : Nat, tv = .int (j : Nat) ∧ j < S.length ∧ endF S t j - S.getD j 0 = L) ∨ (w = "runs" ∧ ∃ (pr : Addr) (ps : List (Int × Int)), tv = .ref pr ∧ PrsAt H pr ps ∧ ps.length = m ∧ RunsOk S t L m ps)
theorem ToldV.but {H H' : Hp} {S : List Int} {t L : Int} {m : Nat} {w : Str} {tv : V} {g : Addr} (h : ToldV H S t L m w tv) (hP : PumpAt H g) (b : But g H H') : ToldV H' S t L m w tv := by
  rcases h with h | ⟨e, pr, ps, e1, e2, e3⟩
  · exact .inl h
  · exact .inr ⟨e, pr, ps, e1, e2.but hP b, e3⟩
theorem told_v {K : PySem.W.Frag} {H : Hp} {p : Addr} {S : List Int} {t L : Int} {m : Nat} {w : Str} {tv : V} (hm : m ≤ 100) (hp : H p = some (.tup [.str w, tv])) (h : ToldV H S t L m w tv) : PaperV K H (.ref p) S t L m true := by
  refine .inr (.inr (.inr ⟨p, w, tv, rfl, hp, ?_⟩))
  rcases h with ⟨e, j, e1, e2, e3⟩ | ⟨e, pr, ps, e1, e2, e3, e4⟩
  · exact .inl ⟨e, .inr ⟨j, e1, e2, fun _ => e3, fun _ => rfl⟩⟩
  · exact .inr (.inr ⟨e, .inr (.inr ⟨pr, ps, e1, e2, by omega, fun _ => e4, fun _ => rfl⟩)⟩)
theorem told_of {H : Hp} {p : Addr} {S : List Int} {t L : Int} {m : Nat} (hg : GoodI S) (ht : lastI S < t) (h1 : 1 ≤ m) (h2 : m ≤ S.length) (hL : bst t 0 (S.drop 1) (m - 1) = some L) (h : PaperAt H p S t L m) : ∃ (w : Str) (tv : V), H p = some (.tup [.str w, tv]) ∧ ToldV H S t L m w tv := by
  rcases h with ⟨j, e1, e2⟩ | ⟨hn, pr, e1, e2⟩
  · refine ⟨_, _, e1, .inl ⟨rfl, j, rfl, ?_⟩⟩
    have hj := (List.getElem?_eq_some_iff.mp e2).1
    obtain ⟨z0, z1⟩ := hg.at0
    rw [sLens_len z1] at hj
    rw [sLens_at hj] at e2
    exact ⟨hj, Option.some.inj e2⟩
  · have hasc := hg.asc ht
    obtain ⟨l1, l2, r, rfl⟩ := hg
    obtain ⟨k, rfl⟩ : ∃ k, m = k + 1 := ⟨m - 1, by omega⟩
    have ok := runsI_ok (k := k) hasc hL (by rw [List.length_cons] at h2; omega) hn
    exact ⟨_, _, e1, .inr ⟨rfl, pr, _, rfl, e2, ok.1, ok⟩⟩
/-- a pair of whole numbers -/
def PairV (H : Hp) (x : V) : Prop := ∃ (c : Addr) (i j : Int), x = .ref c ∧ H c = some (.tup [.int i, .int j])
theorem PairV.same {H H' : Hp} {x : V} (h : PairV H x) (s : Same H H') : PairV H' x := by
  obtain ⟨c, i, j, e, h⟩ := h
  exact ⟨c, i, j, e, s _ _ h⟩
theorem PairV.but {H H' : Hp} {x : V} {g : Addr} (h : PairV H x) (hP : PumpAt H g) (b : But g H H') : PairV H' x := by
  obtain ⟨c, i, j, e, h⟩ := h
  exact ⟨c, i, j, e, b _ _ (hP.tup h) h⟩
theorem pairs_of {H : Hp} : ∀ {xs : List V}, (∀ x ∈ xs, PairV H x) → ∃ (ts : List Addr) (ps : List (Int × Int)), xs = ts.map V.ref ∧ ts.length = ps.length ∧ ∀ (k : Nat) (t : Addr) (q : Int × Int), ts[k]? = some t → ps[k]? = some q → H t = some (.tup [.int q.1, .int q.2])
  | [], _ => ⟨[], [], rfl, rfl, fun k t q h => by simp at h⟩
  | x :: r, h => by
    obtain ⟨ts, ps, e, hl, hk⟩ := pairs_of fun y hy => h y (List.mem_cons_of_mem _ hy)
    obtain ⟨c, i, j, rfl, hc⟩ := h x List.mem_cons_self
    refine ⟨c :: ts, (i, j) :: ps, by rw [e]; rfl, by rw [List.length_cons, List.length_cons, hl], fun k t q a b => ?_⟩
    cases k with
    | zero => cases a; cases b; exact hc
    | succ k => exact hk k t q a b
theorem prs_of {H : Hp} {p : Addr} {xs : List V} (h : H p = some (.lst xs)) (hx : ∀ x ∈ xs, PairV H x) : ∃ ps, PrsAt H p ps ∧ ps.length = xs.length := by
  obtain ⟨ts, ps, e, hl, hk⟩ := pairs_of hx
  exact ⟨ps, ⟨ts, by rw [h, e], hl, hk⟩, by rw [e, List.length_map, hl]⟩
theorem PrsAt.pairs {H : Hp} {p : Addr} {ps : List (Int × Int)} (h : PrsAt H p ps) : ∃ xs, H p = some (.lst xs) ∧ xs.length = ps.length ∧ ∀ x ∈ xs, PairV H x := by
  obtain ⟨ts, h1, h2, h3⟩ := h
  refine ⟨_, h1, by rw [List.length_map, h2], fun x hx => ?_⟩
  obtain ⟨t, ht, rfl⟩ := List.mem_map.mp hx
  obtain ⟨k, hk⟩ := List.mem_iff_getElem?.mp ht
  have hkl := (List.getElem?_eq_some_iff.mp hk).1
  exact ⟨t, _, _, rfl, h3 k t ps[k] hk (List.getElem?_eq_getElem (by omega))⟩
/-- a list of pairs, off an address -/
def OneV (b : Addr) (H : Hp) (y : V) : Prop := ∃ (q : Addr) (xs : List V), y = .ref q ∧ q ≠ b ∧ H q = some (.lst xs) ∧ xs.length ≤ 50 ∧ ∀ x ∈ xs, PairV H x
theorem PumpAt.pairs {H : Hp} {g p : Addr} {xs : List V} (h : PumpAt H g) (n : H p = some (.lst xs)) (hx : ∀ x ∈ xs, PairV H x) : p ≠ g := fun e => by
  obtain ⟨ts, _, e1, _⟩ := pairs_of hx
  rw [e1] at n
  exact h.refs n e
theorem OneV.same {b : Addr} {H H' : Hp} {y : V} (h : OneV b H y) (s : Same H H') : OneV b H' y := by
  obtain ⟨q, xs, e, n, h, l, k⟩ := h
  exact ⟨q, xs, e, n, s _ _ h, l, fun x hx => (k x hx).same s⟩
theorem OneV.but {b g : Addr} {H H' : Hp} {y : V} (h : OneV b H y) (hP : PumpAt H g) (s : But g H H') : OneV b H' y := by
  obtain ⟨q, xs, e, n, h, l, k⟩ := h
  exact ⟨q, xs, e, n, s _ _ (hP.pairs h k) h, l, fun x hx => (k x hx).but hP s⟩
/-- the list itself written -/
theorem OneV.over {b : Addr} {H : Hp} {y : V} {vs us : List V} (h : OneV b H y) (hb : H b = some (.lst vs)) : OneV b (upd H b (.lst us)) y := by
  obtain ⟨q, xs, e, n, h, l, k⟩ := h
  refine ⟨q, xs, e, n, by rw [upd_ne n]; exact h, l, fun x hx => ?_⟩
  obtain ⟨c, i, j, e, hc⟩ := k x hx
  exact ⟨c, i, j, e, by rw [upd_ne (fun z => by rw [z, hb] at hc; cases hc)]; exact hc⟩
theorem small_non {K : PySem.W.Frag} {H : Hp} : Small K H .non := ⟨.none, .non, rfl, by rw [PyData.depth]; decide⟩
theorem small_row {K : PySem.W.Frag} {H : Hp} {p : Addr} {ns : List Int} (h : H p = some (.lst (ns.map V.int))) : Small K H (.ref p) := ⟨.list (ns.map PyData.int), dp_row (.inl (.inl h)), by rw [PyData.canLay0]; exact lay_ints ns, by rw [PyData.depth, depth_ints]; omega⟩
theorem rep_len {m : Nat} {x : V} : (List.replicate (Int.toNat (m : Int)) [x]).flatten.length = m := by
  rw [Int.toNat_natCast]
  induction m with
  | zero => rfl
  | succ m ih => rw [List.replicate_succ, List.flatten_cons, List.length_append, ih]; show 1 + m = _; omega
theorem rep_no {K : PySem.W.Frag} {H : Hp} {m : Nat} {x : V} (h : NoT K H x) (k : Small K H x) : ∀ y ∈ (List.replicate (Int.toNat (m : Int)) [x]).flatten, NoT K H y ∧ Small K H y := by
  intro y hy
  obtain ⟨l, hl, hy⟩ := List.mem_flatten.mp hy
  rw [List.eq_of_mem_replicate hl] at hy
  rw [List.mem_singleton.mp hy]
  exact ⟨h, k⟩
theorem PaperV.same {K : PySem.W.Frag} {H H' : Hp} {v : V} {S : List Int} {t L : Int} {m : Nat} {b : Bool} (h : PaperV K H v S t L m b) (s : Same H H') : PaperV K H' v S t L m b := by
  rcases h with ⟨h, e⟩ | ⟨p, xs, e1, e2, e3⟩ | ⟨p, x, y, e1, e2, e3, e4⟩ | ⟨p, w, y, e1, e2, h⟩
  · exact .inl ⟨h.same s, e⟩
  · exact .inr (.inl ⟨p, xs, e1, s _ _ e2, e3⟩)
  · exact .inr (.inr (.inl ⟨p, x, y, e1, s _ _ e2, e3.same s, e4⟩))
  · refine .inr (.inr (.inr ⟨p, w, y, e1, s _ _ e2, ?_⟩))
    rcases h with ⟨e, ⟨h, e3⟩ | h⟩ | h | ⟨e, ⟨h, e3⟩ | ⟨q, xs, e3, e4, e5, e6, e7⟩ | ⟨q, ps, e3, e4, e5⟩⟩
    · exact .inl ⟨e, .inl ⟨h.same s, e3⟩⟩
    · exact .inl ⟨e, .inr h⟩
    · exact .inr (.inl h)
    · exact .inr (.inr ⟨e, .inl ⟨h.same s, e3⟩⟩)
    · refine .inr (.inr ⟨e, .inr (.inl ⟨q, xs, e3, s _ _ e4, e5, ?_, e7⟩)⟩)
      rcases e6 with e6 | e6
      · exact .inl e6
      · exact .inr fun x hx => ⟨(e6 x hx).1.same s, (e6 x hx).2.same s⟩
    · exact .inr (.inr ⟨e, .inr (.inr ⟨q, ps, e3, e4.same s, e5⟩)⟩)
theorem cut_mem {xs : List V} {lo hi : Option Int} {x : V} (h : x ∈ cutV xs lo hi) : x ∈ xs := List.mem_of_mem_drop (List.mem_of_mem_take h)
theorem asg_join {te : TE} {tg : TG} {rest : TS} {D : L2.Ends} {rt : VK} {bk ct : L2.St → Hp → Prop} {σ : L2.St} {H : Hp} (Pv : V → Hp → Prop) (h : ∀ Q : VK, (∀ v H', Pv v H' → Q v H') → te σ H Q) (k : ∀ v H', Pv v H' → tg v σ H' (rest D)) :
    L2.Ends.nx { nx := tSeq (tAsg te tg) rest D, rt := rt, bk := bk, ct := ct } σ H := h _ k
theorem ifs_false {c : TT} {A B rest : TS} {D : L2.Ends} {rt : VK} {bk ct : L2.St → Hp → Prop} {σ : L2.St} {H : Hp} (h : ∀ Q : Bool → Hp → Prop, (∀ H', Same H H' → Q false H') → c σ H Q) (k : ∀ H', Same H H' → B { nx := rest D, rt := D.rt, bk := D.bk, ct := D.ct } σ H') : tNext { nx := tSeq (tIfS c A B) rest D, rt := rt, bk := bk, ct := ct } σ H :=
  h _ (fun H' s => iteF (k H' s))
/-- a comprehension over pairs that draws and makes pairs -/
theorem lc_pumpP {K : PySem.W.Frag} {a D g : Addr} {xs : List V} {tg : TG} {te : TE} {vs : List Nat} {σ : L2.St} {H1 : Hp} {Qd : Hp → Prop} (nD : H1 D = none) (hP : PumpAt H1 g) (hA : H1 a = some (.lst xs)) (ag : a ≠ g) (hz : xs.length < sizeLine)
    (hs : ∀ (i : Nat) (x : V) (H' : Hp), xs[i]? = some x → But g H1 H' → PumpAt H' g → ∀ (Qt : V → Hp → Prop) (R : Hp → Prop), (∀ (u : Addr) (p : Int × Int) H'', But g H' H'' → PumpAt H'' g → H'' u = some (.tup [.int p.1, .int p.2]) → Qt (.ref u) H'') →
      tg x (wipe σ vs) H' fun σ2 H2 => wipe σ2 vs = wipe σ vs ∧ tYes σ2 H2 fun b H3 => if b = true then te σ2 H3 fun y H4 => Qt y H4 else R H3)
    (hd : ∀ H' ps, But g H1 H' → PumpAt H' g → ps.length = xs.length → PrsAt H' D ps → Qd H') :
    ∃ W : Nat → Nat → Hp → Prop, (∃ m, W 0 m (upd H1 D (.lst []))) ∧ ∀ i m H, W i m H →
      ((Itl K a).stop i H ∧ Qd H) ∨ ((Itl K a).go i H ∧ ∃ Nx : Hp → Prop, (∀ H', Nx H' → ∃ m', m' < m ∧ W (i + 1) m' H') ∧ ∀ x H', (Itl K a).yld i H x H' → tg x (wipe σ vs) H' fun σ2 H2 => wipe σ2 vs = wipe σ vs ∧ tYes σ2 H2 fun b H3 =>
        if b = true then te σ2 H3 fun y H4 => ∃ acc, H4 D = some (.lst acc) ∧ acc.length < sizeLine ∧ Nx (upd H4 D (.lst (acc ++ [y]))) else Nx H3) := by
  have nDg : D ≠ g := hP.ne nD
  have aD : a ≠ D := ne_of_none hA nD
  refine lc_list (K := K) (a := a) (xs := xs) (fun i H => ∃ ps : List (Int × Int), But g H1 H ∧ PumpAt H g ∧ ps.length = i ∧ PrsAt H D ps)
    ⟨[], But.of (same_upd nD), hP.same (same_upd nD), rfl, [], upd_same, rfl, fun k t q h => by simp at h⟩ (fun i H _ ⟨_, b, _⟩ => .inl (.inl (b _ _ ag hA))) ?_ ?_
  · rintro i x H hi ⟨ps, b, hg, hl, hT⟩
    have hil := (List.getElem?_eq_some_iff.mp hi).1
    refine hs i x H hi b hg (fun y H4 => ∃ acc, H4 D = some (.lst acc) ∧ acc.length < sizeLine ∧ ∃ ps : List (Int × Int), But g H1 (upd H4 D (.lst (acc ++ [y]))) ∧ PumpAt (upd H4 D (.lst (acc ++ [y]))) g ∧ ps.length = i + 1 ∧ PrsAt (upd H4 D (.lst (acc ++ [y]))) D ps) (fun H3 => ∃ ps : List (Int × Int), But g H1 H3 ∧ PumpAt H3 g ∧ ps.length = i + 1 ∧ PrsAt H3 D ps) fun u p H2 b2 hg2 hu => ?_
    obtain ⟨ts, h1, h2, h3⟩ := hT.but hg b2
    refine ⟨_, h1, by rw [List.length_map]; omega, ps ++ [p], ?_, ?_, by rw [List.length_append, hl]; rfl, ts ++ [u], ?_, ?_, ?_⟩
    · intro c o nc hc
      rw [upd_ne (ne_of_none hc nD)]
      exact b2 _ _ nc (b _ _ nc hc)
    · obtain ⟨ns, e1, e2⟩ := hg2
      exact ⟨ns, by rw [upd_ne nDg.symm]; exact e1, e2⟩
    · rw [upd_same, List.map_append]; rfl
    · rw [List.length_append, List.length_append, h2]; rfl
    · have tup_ne : ∀ {c : Addr} {ys : List V}, H2 c = some (.tup ys) → c ≠ D := fun {c ys} h z => by rw [z, h1] at h; cases h
      intro k v q hv hq
      by_cases c : k < ts.length
      · rw [List.getElem?_append_left c] at hv
        rw [List.getElem?_append_left (by omega)] at hq
        have h4 := h3 k v q hv hq
        rw [upd_ne (tup_ne h4)]
        exact h4
      · rw [List.getElem?_append_right (by omega)] at hv
        rw [List.getElem?_append_right (by omega), ← h2] at hq
        have hk : k - ts.length = 0 := by
          have := (List.getElem?_eq_some_iff.mp hv).1
          rw [List.length_singleton] at this
          omega
        rw [hk] at hv hq
        cases hv
        cases hq
        rw [upd_ne (tup_ne hu)]
        exact hu
  · rintro H ⟨ps, b, hg, hl, hT⟩
    exact hd H ps b hg hl hT
local macro_rules | `(tactic| walk_at "go") => `(tactic| repeat (first | (with_reducible first | refine iteT ?_ | refine iteF ?_ | refine iteNtt ?_ | refine iteNff ?_ | refine iteET (by omega) ?_ | refine iteEF (by omega) ?_ | refine iteENT (by omega) ?_ | refine iteENF (by omega) ?_ | refine iteDT (by omega) ?_ | refine iteDF (by omega) ?_ | refine iteNT (by omega) ?_ | refine iteNF (by omega) ?_) | refine ⟨_, rfl, ?_⟩ | refine ⟨_, _, rfl, rfl, ?_⟩ | refine ⟨_, _, rfl, ?_⟩ | refine ⟨rfl, ?_⟩ | refine .inl ⟨_, rfl, ?_⟩ | refine .inr ⟨_, rfl, ?_⟩))
local macro_rules | `(tactic| walk_at "b") => `(tactic| try dsimp (config := { proj := false, iota := false, eta := false, zeta := false }) only)
end My

namespace My
open PySem PySem.Spec PyProof.Rows L2 Pre
/-! ### papers right -/
local macro_rules | `(tactic| walk_at "go") => `(tactic| repeat (first | (with_reducible first | refine iteT ?_ | refine iteF ?_ | refine iteNtt ?_ | refine iteNff ?_ | refine iteET (by omega) ?_ | refine iteEF (by omega) ?_ | refine iteENT (by omega) ?_ | refine iteENF (by omega) ?_ | refine iteDT (by omega) ?_ | refine iteDF (by omega) ?_ | refine iteNT (by omega) ?_ | refine iteNF (by omega) ?_) | refine ⟨_, rfl, ?_⟩ | refine ⟨_, _, rfl, rfl, ?_⟩ | refine ⟨_, _, rfl, ?_⟩ | refine ⟨rfl, ?_⟩ | refine .inl ⟨_, rfl, ?_⟩ | refine .inr ⟨_, rfl, ?_⟩))
local macro_rules | `(tactic| walk_at "b") => `(tactic| try dsimp (config := { proj := false, iota := false, eta := false, zeta := false }) only)
section
variable {P : Program} {w : World} {K : PySem.W.Frag} {mg : Str → Option Value} {base : Heap} [pf : Sup.PF P fileS]
def sp_law_papers_right : Sp := fun vs H Q _ => ∃ (g a : Addr) (S : List Int) (t : Int) (m : Nat) (L : Int), vs = [.ref g, .ref a, .int t, .int m, .int L] ∧ PumpAt H g ∧ H a = some (.lst (S.map V.int)) ∧ a ≠ g ∧ GoodI S ∧ S.length ≤ 9 ∧ lastI S < t ∧ 1 ≤ m ∧ m ≤ S.length ∧ bst t 0 (S.drop 1) (m - 1) = some L ∧ ∀ H', But g H H' → PumpAt H' g → Q (.bl true) H'
theorem G_law_papers_right (T : Top K mg) : FnG P w K mg base CX0 7 T.f_law_papers_right T.fd_law_papers_right ["_law_pump_here", "_law_starts_here", "_law_total", "_law_many", "_law_step_here"] sp_law_papers_right := by
  refine FnG.body T.F_law_papers_right sc_law_papers_right (fun vs H Q E h => by obtain ⟨g, a, S, t, m, L, rfl, _⟩ := h; rfl) (fun cdv A outer s H vs Q E gd hr h => ?_)
  obtain ⟨g, a, S, t, m, L, rfl, hP, hA, ag, hg, hl9, ht, hm1, hm2, hL, q⟩ := h
  refine ⟨_, PSs.nox (pss_cons (ps_setLc (i := 5) (own := [("_law_low", 15), ("_law_high", 16)]) (g := gTup K 2 (gCons (gName 15) (gCons (gName 16) (gNil)))) (tt := tYes) (by rfl) sc_law_papers_right.nd rfl rfl (sw_true rfl rfl rfl (by decide +kernel)) (pi_zip (by rfl) T.n_zip (pa_cons (pv 1) (pa_cons (pe_op op_cat (pe_slice (k_slL K rfl) (pv 1) (po_some pe_int) po_none) (pe_lst (pa_cons (pv 2) pa_nil))) pa_nil))) (blkOk_by (own := [("_law_low", 15), ("_law_high", 16)]) (N := N_law_papers_right) (sc := defScope s_law_papers_right) (by decide +kernel)) (fun _ _ _ _ _ => (k_pgT K rfl (by rfl) (pgs_cons (pg_name (i := 15) sc_law_papers_right.nd rfl (by first | exact Or.inl rfl | exact Or.inr rfl)) (pgs_cons (pg_name (i := 16) sc_law_papers_right.nd rfl (by first | exact Or.inl rfl | exact Or.inr rfl)) pgs_nil)))) (fun _ _ _ _ _ => pts_nil) (fun _ _ _ _ _ => (pe_op op_sub (pv 16) (pv 15))))
  (pss_cons (ps_asg (pe_call (G_table_paper (P := P) T) (hr.mono (by decide)) (by rfl) T.g_table_paper T.F_table_paper.kp T.b_table_paper .nil passL (pa_cons (pv 1) (pa_cons (pv 2) (pa_cons (pv 3) pa_nil)))) (k_pgT K rfl (by rfl) (pgs_cons (pg_name (i := 12) sc_law_papers_right.nd rfl (by first | exact Or.inl rfl | exact Or.inr rfl)) (pgs_cons (pg_name (i := 13) sc_law_papers_right.nd rfl (by first | exact Or.inl rfl | exact Or.inr rfl)) pgs_nil))))
  (pss_cons (ps_if (pt_cmpR op_isnot_bl (pe_call (G_is_table_paper (P := P) T) (hr.mono (by decide)) (by rfl) T.g_is_table_paper T.F_is_table_paper.kp T.b_is_table_paper .nil passL (pa_cons (pv 1) (pa_cons (pv 2) (pa_cons (pv 3) (pa_cons (pe_tup (pa_cons (pv 12) (pa_cons (pv 13) pa_nil))) pa_nil))))) pe_bl (nomark _))
    (pss_one (ps_ret pe_bl))
    pss_nil)
  (pss_cons (ps_if (PW.pt (pw_or (pt_cmpR (k_notIn K rfl) (pv 12) (pe_lst (pa_cons pe_str (pa_cons pe_str pa_nil))) (by rfl)) (pw_or1 (PW.pt (pw_and (pt_cmpR op_eq (pv 12) pe_str (nomark _)) (pw_and1 (pt_cmpR op_ne (pe_ix (k_ixL K rfl) (pv 5) (pv 13) (fun _ _ => rfl)) (pv 4) (nomark _))))))))
    (pss_one (ps_ret pe_bl))
    pss_nil)
  (pss_cons (ps_if (PW.pt (pw_and (pt_cmpR op_eq (pv 12) pe_str (nomark _)) (pw_and1 (pt_not (pt_val (pe_call (G_law_is_runs (P := P) T) (hr.mono (by decide)) (by rfl) T.g_law_is_runs T.F_law_is_runs.kp T.b_law_is_runs .nil pass0 (pa_cons (pv 1) (pa_cons (pv 2) (pa_cons (pv 3) (pa_cons (pv 4) (pa_cons (pv 13) pa_nil)))))))))))
    (pss_one (ps_ret pe_bl))
    pss_nil)
  (pss_cons (ps_for PassesOwn.never rfl (pi_range1 (by rfl) T.n_range (pa_cons (pe_callB (k_len K rfl) (by rfl) T.n_len (by decide +kernel) (pa_cons (pv 1) pa_nil)) pa_nil)) (pg_name (i := 6) sc_law_papers_right.nd rfl (by first | exact Or.inl rfl | exact Or.inr rfl))
    (pss_one (ps_if (pt_cmpR op_ne (pe_callB (k_reprX K rfl gd (hu65 hr)) (by rfl) T.n_repr (by decide +kernel) (pa_cons (pe_call (G_is_table_paper (P := P) T) (hr.mono (by decide)) (by rfl) T.g_is_table_paper T.F_is_table_paper.kp T.b_is_table_paper .nil passL (pa_cons (pv 1) (pa_cons (pv 2) (pa_cons (pv 3) (pa_cons (pe_tup (pa_cons pe_str (pa_cons (pv 6) pa_nil))) pa_nil))))) pa_nil)) (pe_callB (k_reprX K rfl gd (hu65 hr)) (by rfl) T.n_repr (by decide +kernel) (pa_cons (pe_cmpR op_eq (pe_ix (k_ixL K rfl) (pv 5) (pv 6) (fun _ _ => rfl)) (pv 4) (nomark _)) pa_nil)) (nomark _))
    (pss_one (ps_ret pe_bl))
    pss_nil)))
  (pss_cons (ps_set (i := 7) sc_law_papers_right.nd rfl (by first | exact Or.inl rfl | exact Or.inr rfl) (pe_ifExp (pt_cmpR op_eq (pv 12) pe_str (nomark _)) (pv 13) (pe_slice (k_slL K rfl) (pe_lc (own := [("_law_at", 6)]) (g := gName 6) (tt := tYes) (by rfl) sc_law_papers_right.nd (pi_range1 (by rfl) T.n_range (pa_cons (pe_op op_sub (pe_callB (k_len K rfl) (by rfl) T.n_len (by decide +kernel) (pa_cons (pv 1) pa_nil)) pe_int) pa_nil)) (blkOk_by (own := [("_law_at", 6)]) (N := N_law_papers_right) (sc := defScope s_law_papers_right) (by decide +kernel)) (fun _ _ _ _ _ => (pg_name (i := 6) sc_law_papers_right.nd rfl (by first | exact Or.inl rfl | exact Or.inr rfl))) (fun _ _ _ _ _ => pts_nil) (fun _ _ _ _ _ => (pe_tup (pa_cons (pv 6) (pa_cons (pe_op op_add (pv 6) pe_int) pa_nil))))) po_none (po_some (pv 3)))))
  (pss_cons (ps_set (i := 8) sc_law_papers_right.nd rfl (by first | exact Or.inl rfl | exact Or.inr rfl) (pe_lst (pa_cons (pv 7) (pa_cons (pe_revL (pv 7)) (pa_cons (pe_slice (k_slL K rfl) (pv 7) (po_some pe_int) po_none) (pa_cons (pe_op op_cat (pv 7) (pe_slice (k_slL K rfl) (pv 7) (po_some (pe_un un_neg pe_int)) po_none)) pa_nil))))))
  (pss_cons (ps_for PassesOwn.never rfl (pi_range1 (by rfl) T.n_range (pa_cons pe_int pa_nil)) (pg_name (i := 9) sc_law_papers_right.nd rfl (by first | exact Or.inl rfl | exact Or.inr rfl))
    (pss_one (ps_expr (pe_bm PySem.F.plainAttrs_list PySem.F.slot_list_append PySem.F.type_list_append mt_append (pv 8) (pa_cons (pe_lc (own := [("_law_low", 15), ("_law_high", 16)]) (g := gTup K 2 (gCons (gName 15) (gCons (gName 16) (gNil)))) (tt := tYes) (by rfl) sc_law_papers_right.nd (k_piL K rfl (pv 7)) (blkOk_by (own := [("_law_low", 15), ("_law_high", 16)]) (N := N_law_papers_right) (sc := defScope s_law_papers_right) (by decide +kernel)) (fun _ _ _ _ _ => (k_pgT K rfl (by rfl) (pgs_cons (pg_name (i := 15) sc_law_papers_right.nd rfl (by first | exact Or.inl rfl | exact Or.inr rfl)) (pgs_cons (pg_name (i := 16) sc_law_papers_right.nd rfl (by first | exact Or.inl rfl | exact Or.inr rfl)) pgs_nil)))) (fun _ _ _ _ _ => pts_nil) (fun _ _ _ _ _ => (pe_tup (pa_cons (pe_op op_sub (pe_op op_add (pv 15) (pe_call (G_law_cup (P := P) T) (hr.mono (by decide)) (by rfl) T.g_law_cup T.F_law_cup.kp T.b_law_cup .nil pass0 (pa_cons (pv 0) (pa_cons pe_int pa_nil)))) pe_int) (pa_cons (pe_op op_sub (pe_op op_add (pv 16) (pe_call (G_law_cup (P := P) T) (hr.mono (by decide)) (by rfl) T.g_law_cup T.F_law_cup.kp T.b_law_cup .nil pass0 (pa_cons (pv 0) (pa_cons pe_int pa_nil)))) pe_int) pa_nil))))) pa_nil)))))
  (pss_cons (ps_for PassesOwn.never rfl (k_piL K rfl (pv 8)) (pg_name (i := 10) sc_law_papers_right.nd rfl (by first | exact Or.inl rfl | exact Or.inr rfl))
    (pss_cons (ps_set (i := 14) sc_law_papers_right.nd rfl (by first | exact Or.inl rfl | exact Or.inr rfl) (pe_call (G_law_is_runs (P := P) T) (hr.mono (by decide)) (by rfl) T.g_law_is_runs T.F_law_is_runs.kp T.b_law_is_runs .nil pass0 (pa_cons (pv 1) (pa_cons (pv 2) (pa_cons (pv 3) (pa_cons (pv 4) (pa_cons (pv 10) pa_nil)))))))
  (pss_one (ps_if (pt_cmpR op_ne (pe_callB (k_reprX K rfl gd (hu65 hr)) (by rfl) T.n_repr (by decide +kernel) (pa_cons (pe_callKO (G_is_table_paper (P := P) T) (hr.mono (by decide)) (by rfl) T.g_is_table_paper T.F_is_table_paper.kp (FunD.kbindsN T.F_is_table_paper ["value", "many", "total", "starts"] List.reverse Vals_rev (fun _ _ _ _ _ _ ws hl => match ws, hl with | [_, _, _, _], _ => rfl)) passL (pk_cons (pe_tup (pa_cons pe_str (pa_cons (pv 10) pa_nil))) (pk_cons (pv 3) (pk_cons (pv 2) (pk_cons (pv 1) pk_nil))))) pa_nil)) (pe_callB (k_reprX K rfl gd (hu65 hr)) (by rfl) T.n_repr (by decide +kernel) (pa_cons (pv 14) pa_nil)) (nomark _))
    (pss_one (ps_ret pe_bl))
    pss_nil))))
  (pss_cons (ps_set (i := 11) sc_law_papers_right.nd rfl (by first | exact Or.inl rfl | exact Or.inr rfl) (pe_lst (pa_cons pe_non (pa_cons (pe_tup pa_nil) (pa_cons pe_str (pa_cons (pe_lst (pa_cons pe_str (pa_cons pe_int pa_nil))) (pa_cons (pe_tup (pa_cons pe_str (pa_cons (pe_un un_neg pe_int) pa_nil))) (pa_cons (pe_tup (pa_cons pe_str (pa_cons (pe_callB (k_len K rfl) (by rfl) T.n_len (by decide +kernel) (pa_cons (pv 1) pa_nil)) pa_nil))) (pa_cons (pe_tup (pa_cons pe_str (pa_cons pe_bl pa_nil))) (pa_cons (pe_tup (pa_cons pe_str (pa_cons pe_str pa_nil))) (pa_cons (pe_tup (pa_cons pe_str (pa_cons pe_int (pa_cons pe_int pa_nil)))) pa_nil)))))))))))
  (pss_cons (ps_set (i := 11) sc_law_papers_right.nd rfl (by first | exact Or.inl rfl | exact Or.inr rfl) (pe_op op_cat (pv 11) (pe_lst (pa_cons (pe_tup (pa_cons pe_str (pa_cons (pe_callTy (k_tupleOf K rfl) (by rfl) T.n_tuple (by decide +kernel) (pa_cons (pv 7) pa_nil)) pa_nil))) (pa_cons (pe_tup (pa_cons pe_str (pa_cons pe_non pa_nil))) (pa_cons (pe_tup (pa_cons pe_str (pa_cons (pe_op op_rep (pe_lst (pa_cons pe_non pa_nil)) (pv 3)) pa_nil))) (pa_cons (pe_tup (pa_cons pe_str (pa_cons (pe_op op_rep (pe_lst (pa_cons (pe_lst (pa_cons pe_int (pa_cons pe_int pa_nil))) pa_nil)) (pv 3)) pa_nil))) pa_nil)))))))
  (pss_cons (ps_set (i := 11) sc_law_papers_right.nd rfl (by first | exact Or.inl rfl | exact Or.inr rfl) (pe_op op_cat (pv 11) (pe_lst (pa_cons (pe_tup (pa_cons pe_str (pa_cons pe_int pa_nil))) (pa_cons (pe_tup (pa_cons pe_int (pa_cons pe_int pa_nil))) pa_nil)))))
  (pss_one (ps_ret (pe_cmpR (k_eqD K rfl hr.units) (pe_lc (own := [("_law_one", 10)]) (g := gName 10) (by rfl) sc_law_papers_right.nd (k_piL K rfl (pv 11)) (blkOk_by (own := [("_law_one", 10)]) (N := N_law_papers_right) (sc := defScope s_law_papers_right) (by decide +kernel)) (fun _ _ _ _ _ => (pg_name (i := 10) sc_law_papers_right.nd rfl (by first | exact Or.inl rfl | exact Or.inr rfl))) (fun _ _ _ _ _ => (pts_one (pt_cmpR op_isnot_bl (pe_call (G_is_table_paper (P := P) T) (hr.mono (by decide)) (by rfl) T.g_is_table_paper T.F_is_table_paper.kp T.b_is_table_paper .nil passL (pa_cons (pv 1) (pa_cons (pv 2) (pa_cons (pv 3) (pa_cons (pv 10) pa_nil))))) pe_bl (nomark _)))) (fun _ _ _ _ _ => (pv 10))) (pe_lst pa_nil) (nomark _))))))))))))))))), ?_⟩
  have hS : SqL K H a (S.map V.int) := .inl (.inl hA)
  obtain ⟨z0, z1⟩ := hg.at0
  have hl60 := hg.1
  refine ⟨_, rfl, _, rfl, _, rfl, a, _, rfl, hS, fun c1 nc1 => ?_⟩
  rw [show (some (1 : Int)) = some ((1 : Nat) : Int) from rfl, cut_drop, ← List.map_drop]
  obtain ⟨H1, e1, s1, hc1⟩ := fresh (.lst ((S.drop 1).map V.int)) nc1
  rw [e1]
  refine ⟨_, rfl, (show 1 ≤ sizeLine by decide), fun c2 nc2 => ?_⟩
  obtain ⟨H2, e2, s2, hc2⟩ := fresh (.lst [V.int t]) nc2
  rw [e2]
  refine ⟨c1, c2, _, _, rfl, rfl, s2 _ _ hc1, hc2, by rw [List.length_map, List.length_drop, sizeLine_eq]; show _ + 1 ≤ _; omega, fun c3 nc3 => ?_⟩
  obtain ⟨H3, e3, s3, hc3⟩ := fresh (.lst ((endsL S t).map V.int)) nc3
  rw [show upd H2 c3 (.lst ((S.drop 1).map V.int ++ [V.int t])) = H3 by rw [← e3]; unfold endsL; rw [List.map_append]; rfl]
  have s03 := (s1.trans s2).trans s3
  have hC3 : SqL K H3 c3 ((endsL S t).map V.int) := .inl (.inl hc3)
  have hS3 := s03.seq hS
  have hel := ends_len (S := S) (t := t) z1
  have hsl := sLens_len (S := S) (t := t) z1
  refine ⟨a, c3, _, _, rfl, hS3, hC3, fun D nD => ?_⟩
  refine lc_dW (walk_zip (K := K) (a := a) (b := c3) (xs := S.map V.int) (ys := (endsL S t).map V.int) (n := S.length) (by rw [List.length_map, List.length_map, hel, Nat.min_self])) (S := []) Has.nil ((sLens S t).map fun x => some (PyData.int x)) nD (by rw [List.length_map, hsl]) (small4 (by omega)) (fun H' s => ⟨s.seq hS3, s.seq hC3⟩) ?_ ?_
  · rintro j o H0 x H'' hj ho s0 hH ⟨T1, x1, y1, rfl, nT, rfl, e1, e2⟩ Qt qt
    have st := same_upd (o := .tup [x1, y1]) nT
    obtain ⟨n1, en1, rfl⟩ := int_at e1
    obtain ⟨n2, en2, rfl⟩ := int_at e2
    have eo : o = some (PyData.int (n2 - n1)) := by
      rw [ends_at hj] at en2
      rw [List.getElem?_map, sLens_at hj] at ho
      rw [← Option.some.inj en2, show n1 = S.getD j 0 by rw [List.getD_eq_getElem?_getD, en1]; rfl]
      exact (Option.some.inj ho).symm
    subst eo
    refine ⟨T1, _, rfl, .inl (.inl upd_same), rfl, ?_⟩
    generalize upd H0 T1 (.tup [V.int n1, V.int n2]) = H8 at st
    refine ⟨_, _, rfl, _, _, rfl, rfl, ⟨rfl, ?_⟩⟩
    refine ⟨_, rfl, _, rfl, _, _, rfl, rfl, ?_⟩
    exact qt _ _ st (.int _)
  · intro H7 s7 _ dD
    have el : ((sLens S t).map fun x => some (PyData.int x)).filterMap id = (sLens S t).map PyData.int := sel_map _ _
    rw [el, rs_nil] at dD
    obtain ⟨_, e, hD⟩ := Dt.intsE (ns := sLens S t) dD
    cases e
    have s07 := s03.trans s7
    refine ⟨_, rfl, _, rfl, _, rfl, _, _, _, rfl, right_starts (s07 _ _ hA) hg ht hm1 hm2 ⟨t, m, rfl, rfl, ht, hm1, hm2, fun L' hL' H8 p s8 np hp => ?_⟩⟩
    obtain rfl := (only hL hL').symm
    have s08 := s07.trans s8
    obtain ⟨w, tv, hpt, hT⟩ := told_of hg ht hm1 hm2 hL hp
    refine ⟨p, _, rfl, .inl (.inl hpt), rfl, ?_⟩
    refine ⟨_, _, rfl, _, _, rfl, rfl, ?_⟩
    refine ⟨_, rfl, _, rfl, _, rfl, _, rfl, _, rfl, (show 2 ≤ sizeLine by decide), fun p1 np1 => ?_⟩
    obtain ⟨H9, e9, s9, hp1⟩ := fresh (.tup [V.str w, tv]) np1
    rw [e9]
    have s09 := s08.trans s9
    have hT9 : ToldV H9 S t L m w tv := hT.but (hP.same s08) (But.of s9)
    refine ⟨_, _, _, _, rfl, right_starts (s09 _ _ hA) hg ht hm1 hm2 ⟨t, m, rfl, rfl, ht, hm1, hm2, fun L' hL' => ⟨true, ?_, fun H10 s10 => ?_⟩⟩⟩
    · rw [only hL hL']
      exact told_v (by omega) hp1 hT9
    have s010 := s09.trans s10
    have hT10 : ToldV H10 S t L m w tv := hT9.but (hP.same s09) (But.of s10)
    refine ⟨_, _, rfl, rfl, _, rfl, iteF ?_⟩
    refine ifs_false (fun Q q' => ?_) (fun H11 s11 => ?_)
    · refine ⟨_, rfl, (show 2 ≤ sizeLine by decide), fun l nl => ?_⟩
      obtain ⟨HB, eB, sB, hl⟩ := fresh (.lst [V.str (("one" : String) : Str), .str (("runs" : String) : Str)]) nl
      rw [eB]
      have hmem : inV (.str w) [V.str (("one" : String) : Str), .str (("runs" : String) : Str)] = true := by
        rcases hT10 with ⟨e, _⟩ | ⟨e, _⟩ <;> rw [e] <;> decide +kernel
      refine ⟨l, _, rfl, .inl (.inl (.inl hl)), rfl, rfl, _, rfl, ?_⟩
      rw [hmem]
      refine iteF ?_
      refine ⟨_, rfl, rfl, _, rfl, ?_⟩
      rcases hT10 with ⟨rfl, j, rfl, hj, ej⟩ | ⟨rfl, _⟩
      · rw [decide_eq_true rfl]
        refine ⟨_, rfl, _, rfl, D, _, _, _, rfl, rfl, .inl (.inl (sB _ _ (s10 _ _ (s9 _ _ (s8 _ _ hD))))), at_of (j := j) rfl (by rw [List.getElem?_map, sLens_at hj]; rfl), _, rfl, rfl, _, rfl, ?_⟩
        rw [ej, decide_eq_true rfl]
        exact q' _ sB
      · rw [decide_eq_false (fun z => by have := V.str.inj z; exact absurd this (by decide))]
        exact iteF (q' _ sB)
    have hT11 : ToldV H11 S t L m w tv := hT10.but (hP.same s010) (But.of s11)
    have s011 := s010.trans s11
    refine ifs_false (fun Q q' => ?_) (fun H12 s12 => ?_)
    · refine ⟨_, rfl, rfl, _, rfl, ?_⟩
      rcases hT11 with ⟨rfl, _⟩ | ⟨rfl, pr, ps, rfl, hps, hpl, hok⟩
      · rw [decide_eq_false (fun z => by have := V.str.inj z; exact absurd this (by decide))]
        exact iteF (q' _ (Same.refl _))
      · rw [decide_eq_true rfl]
        refine ⟨_, rfl, _, rfl, _, rfl, _, rfl, _, rfl, a, S, t, m, L, pr, ps, true, rfl, s011.seq hS, z1, hl60, hps, by omega, ⟨fun _ => hok, fun _ => rfl⟩, fun H' s' => ?_⟩
        exact ⟨_, rfl, q' _ s'⟩
    have hT12 : ToldV H12 S t L m w tv := hT11.but (hP.same s011) (But.of s12)
    have s012 := s011.trans s12
    have hD12 : H12 D = some (.lst ((sLens S t).map V.int)) := s12 _ _ (s11 _ _ (s10 _ _ (s9 _ _ (s8 _ _ hD))))
    clear hT hT9 hT10 hT11 hpt hp
    refine ⟨_, rfl, a, _, rfl, .inl (s012.seq hS), _, rfl, (by rw [List.length_map]; omega), (by rw [List.length_map]; omega), ?_⟩
    rw [List.length_map, Int.toNat_natCast]
    refine for_range (lo := 0) (n := S.length) (fun i σ HE => ∃ v6 : Option V, σ = [some (.ref g), some (.ref a), some (.int t), some (.int m), some (.int L), some (.ref D), v6, none, none, none, none, none, some (.str w), some tv, none, none, none] ∧ Same H12 HE) ⟨none, rfl, Same.refl _⟩ ?_ ?_
    · rintro i σ HE hi ⟨v6, rfl, sE⟩
      rw [Int.zero_add]
      refine ⟨_, rfl, _, rfl, _, rfl, _, rfl, (show 2 ≤ sizeLine by decide), fun p2 np2 => ?_⟩
      obtain ⟨HF, eF, sF, hp2⟩ := fresh (.tup [V.str (("one" : String) : Str), .int (i : Int)]) np2
      rw [eF]
      refine ⟨_, _, _, _, rfl, right_starts (sF _ _ (sE _ _ (s012 _ _ hA))) hg ht hm1 hm2 ⟨t, m, rfl, rfl, ht, hm1, hm2, fun L' hL' => ⟨decide (endF S t i - S.getD i 0 = L), ?_, fun HG sG => repr_bl ?_⟩⟩⟩
      · rw [only hL hL']
        exact .inr (.inr (.inr ⟨p2, _, _, rfl, hp2, .inl ⟨rfl, .inr ⟨i, rfl, hi, by rw [decide_eq_true_eq]⟩⟩⟩))
      have sEG := (sE.trans sF).trans sG
      refine ⟨_, rfl, _, rfl, D, _, _, _, rfl, rfl, .inl (.inl (sEG _ _ hD12)), at_of (j := i) rfl (by rw [List.getElem?_map, sLens_at hi]; rfl), _, rfl, rfl, repr_bl ?_⟩
      rw [show decide (V.int (endF S t i - S.getD i 0) = V.int L) = decide (endF S t i - S.getD i 0 = L) from decide_eq_decide.mpr ⟨fun z => V.int.inj z, fun z => congrArg V.int z⟩]
      refine ⟨rfl, _, rfl, ?_⟩
      rw [decide_eq_true rfl]
      exact iteF ⟨_, rfl, sEG⟩
    rintro σ HE ⟨v6, rfl, sE⟩
    have hT13 : ToldV HE S t L m w tv := hT12.but (hP.same s012) (But.of sE)
    have s0E := s012.trans sE
    refine asg_join (fun v H' => ∃ (p7 : Addr) (xs : List V), v = .ref p7 ∧ Same HE H' ∧ H' p7 = some (.lst xs) ∧ xs.length ≤ 20 ∧ ∀ x ∈ xs, PairV H' x) (fun Q q' => ?_) ?_
    · refine ⟨_, rfl, rfl, _, rfl, ?_⟩
      rcases hT13 with ⟨rfl, _⟩ | ⟨rfl, pr, ps, rfl, hps, hpl, hok⟩
      · rw [decide_eq_false (fun z => by have := V.str.inj z; exact absurd this (by decide))]
        refine iteF ?_
        refine ⟨_, rfl, a, _, rfl, .inl (s0E.seq hS), _, _, rfl, rfl, _, rfl, ?_⟩
        rw [List.length_map]
        refine ⟨by omega, by omega, fun D2 nD2 => ?_⟩
        refine lc_relR (lo := 0) (n := ((S.length : Int) - 1).toNat) (fun _ y H => ∃ (c : Addr) (i j : Int), y = .ref c ∧ c ≠ D2 ∧ H c = some (.tup [.int i, .int j])) nD2 (small4 (by omega)) (fun _ _ _ _ o ⟨c, i, j, e, n, h⟩ => ⟨c, i, j, e, n, o _ _ n h⟩) (fun x => rfl) ?_ ?_
        · intro j HB ys hj sB hDB Qt qt
          refine ⟨_, rfl, _, rfl, _, _, rfl, rfl, (show 2 ≤ sizeLine by decide), fun c nc => ?_⟩
          exact qt _ _ (same_upd nc) ⟨c, _, _, rfl, (ne_of_none hDB nc).symm, upd_same⟩
        · intro HC ys sC hDC hlC hRC
          refine ⟨_, rfl, _, rfl, D2, _, rfl, .inl (.inl hDC), fun p7 np7 => ?_⟩
          have s7' := same_upd (o := .lst (cutV ys none (some (m : Int)))) np7
          refine q' _ _ ⟨p7, _, rfl, sC.trans s7', upd_same, Nat.le_trans (cutV_length _ _ _) (by omega), fun x hx => ?_⟩
          obtain ⟨k, hk⟩ := List.mem_iff_getElem?.mp (cut_mem hx)
          obtain ⟨c, i, j, e, _, h⟩ := hRC k x hk
          exact ⟨c, i, j, e, s7' _ _ h⟩
      · rw [decide_eq_true rfl]
        obtain ⟨xs, h1, h2, h3⟩ := hps.pairs
        exact iteT ⟨_, rfl, q' _ _ ⟨pr, xs, rfl, Same.refl _, h1, by omega, h3⟩⟩
    rintro v H13 ⟨p7, xs, rfl, s13, h7, hl7, hx7⟩
    have hP13 : PumpAt H13 g := hP.same (s0E.trans s13)
    have s013 := s0E.trans s13
    clear hT13 hT12
    refine ⟨_, rfl, _, rfl, p7, _, rfl, .inl (.inl h7), fun q1 nq1 => ?_⟩
    obtain ⟨H14, e14, s14, hq1⟩ := fresh (.lst xs.reverse) nq1
    rw [e14]
    refine ⟨_, rfl, _, rfl, p7, _, rfl, .inl (.inl (s14 _ _ h7)), fun q2 nq2 => ?_⟩
    obtain ⟨H15, e15, s15, hq2⟩ := fresh (.lst (cutV xs (some 1) none)) nq2
    rw [e15]
    refine ⟨_, rfl, _, rfl, _, rfl, _, rfl, p7, _, rfl, .inl (.inl (s15 _ _ (s14 _ _ h7))), fun q3 nq3 => ?_⟩
    obtain ⟨H16, e16, s16, hq3⟩ := fresh (.lst (cutV xs (some (-1)) none)) nq3
    refine (show upd H15 q3 (.lst (cutV xs (some (-1)) none)) = H16 from e16) ▸ ?_
    have h716 := s16 _ _ (s15 _ _ (s14 _ _ h7))
    have lc1 := cutV_length xs (some (-1)) none
    have lc2 := cutV_length xs (some 1) none
    refine ⟨p7, q3, _, _, rfl, rfl, h716, hq3, by rw [sizeLine_eq]; omega, fun q4 nq4 => ?_⟩
    obtain ⟨H17, e17, s17, hq4⟩ := fresh (.lst (xs ++ cutV xs (some (-1)) none)) nq4
    rw [e17]
    refine ⟨(show 4 ≤ sizeLine by decide), fun b nb => ?_⟩
    obtain ⟨H18, e18, s18, hb⟩ := fresh (.lst [V.ref p7, .ref q1, .ref q2, .ref q4]) nb
    rw [e18]
    have s1317 := ((s14.trans s15).trans s16).trans s17
    have s017 := s013.trans s1317
    have hP17 : PumpAt H17 g := hP.same s017
    have nbg : b ≠ g := hP17.ne nb
    have one : ∀ {q : Addr} {ys : List V}, H17 q = some (.lst ys) → ys.length ≤ 50 → (∀ x ∈ ys, x ∈ xs) → OneV b H18 (.ref q) := fun h l k => ⟨_, _, rfl, ne_of_none h nb, s18 _ _ h, l, fun x hx => (hx7 x (k x hx)).same (s1317.trans s18)⟩
    refine ⟨_, rfl, (by decide), (by decide), ?_⟩
    refine for_range (lo := 0) (n := ((6 : Int)).toNat) (fun i σ HE => ∃ (v9 : Option V) (qs : List V), σ = [some (.ref g), some (.ref a), some (.int t), some (.int m), some (.int L), some (.ref D), v6, some (.ref p7), some (.ref b), v9, none, none, some (.str w), some tv, none, none, none] ∧ But g H17 HE ∧ PumpAt HE g ∧ HE b = some (.lst qs) ∧ qs.length = 4 + i ∧ ∀ y ∈ qs, OneV b HE y) ⟨none, _, rfl, But.of s18, hP17.same s18, hb, rfl, fun y hy => ?_⟩ ?_ ?_
    · simp only [List.mem_cons, List.not_mem_nil, or_false] at hy
      rcases hy with rfl | rfl | rfl | rfl
      · exact one (s1317 _ _ h7) (by omega) fun x hx => hx
      · exact one (s17 _ _ (s16 _ _ (s15 _ _ hq1))) (by rw [List.length_reverse]; omega) fun x hx => List.mem_reverse.mp hx
      · exact one (s17 _ _ (s16 _ _ hq2)) (by omega) fun x hx => cut_mem hx
      · exact one hq4 (by rw [List.length_append]; omega) fun x hx => (List.mem_append.mp hx).elim id cut_mem
    · rintro i σ HE hi ⟨v9, qs, rfl, bE, hPE, hbE, hql, hqs⟩
      have pg : p7 ≠ g := hP13.pairs h7 hx7
      have h7E : HE p7 = some (.lst xs) := bE _ _ pg (s1317 _ _ h7)
      have hxE : ∀ x ∈ xs, PairV HE x := fun x hx => ((hx7 x hx).same s1317).but hP17 bE
      refine ⟨_, rfl, .inl ⟨rfl, _, .inl (.inl hbE)⟩, ?_⟩
      refine ⟨_, rfl, p7, rfl, ⟨_, .inl (.inl h7E)⟩, fun D2 nD2 => ?_⟩
      refine lc_pumpP (K := K) (a := p7) (g := g) (xs := xs) nD2 hPE h7E pg (small4 (by omega)) ?_ ?_
      · intro k x H1' hx b1 P1 Qt R qt
        obtain ⟨c, i1, j1, rfl, hc⟩ := (hxE x (List.mem_of_getElem? hx)).but hPE b1
        refine ⟨c, _, rfl, .inl (.inl hc), rfl, ?_⟩
        refine ⟨_, _, rfl, _, _, rfl, rfl, ⟨rfl, ?_⟩⟩
        refine ⟨_, rfl, _, rfl, g, 3, rfl, P1, by decide, by decide, fun H2' d1 b2 P2 hd1 => ?_⟩
        refine ⟨_, _, rfl, rfl, _, _, rfl, rfl, ?_⟩
        refine ⟨_, rfl, _, rfl, g, 3, rfl, P2, by decide, by decide, fun H3' d2 b3 P3 hd2 => ?_⟩
        refine ⟨_, _, rfl, rfl, _, _, rfl, rfl, (show 2 ≤ sizeLine by decide), fun u nu => ?_⟩
        exact qt u (_, _) _ ((b2.trans b3).same (same_upd nu)) (P3.same (same_upd nu)) upd_same
      · intro H5 ps5 b5 P5 hl5 hT5
        have hb5 : H5 b = some (.lst qs) := b5 _ _ nbg hbE
        have nDb : D2 ≠ b := (ne_of_none hbE nD2).symm
        obtain ⟨ys, y1, y2, y3⟩ := hT5.pairs
        have oD : OneV b H5 (.ref D2) := ⟨D2, ys, rfl, nDb, y1, by omega, y3⟩
        refine ⟨b, qs, _, rfl, rfl, hb5, by rw [sizeLine_eq]; omega, ?_⟩
        refine ⟨_, qs ++ [.ref D2], rfl, fun c o nc hc => ?_, ?_, upd_same, by rw [List.length_append, hql]; rfl, fun y hy => ?_⟩
        · rw [upd_ne (ne_of_none hc nb)]
          exact b5 _ _ nc (bE _ _ nc hc)
        · obtain ⟨ns, e1, e2⟩ := P5
          exact ⟨ns, by rw [upd_ne nbg.symm]; exact e1, e2⟩
        · rcases List.mem_append.mp hy with hy | hy
          · exact ((hqs y hy).but hPE b5).over hb5
          · rw [List.mem_singleton.mp hy]
            exact oD.over hb5
    rintro σ HE ⟨v9, qs, rfl, bE, hPE, hbE, hql, hqs⟩
    have haE : HE a = some (.lst (S.map V.int)) := bE _ _ ag (s017 _ _ hA)
    have hSE : SqL K HE a (S.map V.int) := .inl (.inl haE)
    have hdec : ∀ ps : List (Int × Int), ∃ c : Bool, c = true ↔ RunsOk S t L m ps := fun ps => ⟨@decide _ (Classical.propDecidable _), @decide_eq_true_iff _ (Classical.propDecidable _)⟩
    refine ⟨_, rfl, b, rfl, ⟨_, .inl (.inl hbE)⟩, for_list (K := K) (a := b) (fun i σ HF => ∃ v10 v14 : Option V, σ = [some (.ref g), some (.ref a), some (.int t), some (.int m), some (.int L), some (.ref D), v6, some (.ref p7), some (.ref b), v9, v10, none, some (.str w), some tv, v14, none, none] ∧ Same HE HF) ⟨none, none, rfl, Same.refl _⟩ (fun i σ HF _ ⟨_, _, _, s⟩ => .inl (.inl (s _ _ hbE))) ?_ ?_⟩
    · rintro i x σ HF hx ⟨v10, v14, rfl, sF⟩
      obtain ⟨q8, xs8, rfl, n8, h8, l8, k8⟩ := (hqs x (List.mem_of_getElem? hx)).same sF
      obtain ⟨ps8, hps8, hpl8⟩ := prs_of h8 k8
      obtain ⟨c, hc⟩ := hdec ps8
      refine ⟨_, rfl, _, rfl, _, rfl, _, rfl, _, rfl, a, S, t, m, L, q8, ps8, c, rfl, sF.seq hSE, z1, hl60, hps8, by omega, hc, fun HG sG => ?_⟩
      refine ⟨_, rfl, (show 2 ≤ sizeLine by decide), fun p9 np9 => ?_⟩
      obtain ⟨HI, eI, sI, hp9⟩ := fresh (.tup [V.str (("runs" : String) : Str), .ref q8]) np9
      rw [eI]
      have sFI := (sF.trans sG).trans sI
      refine ⟨_, rfl, _, rfl, _, rfl, rfl, _, _, _, _, rfl, right_starts (sFI _ _ haE) hg ht hm1 hm2 ⟨t, m, rfl, rfl, ht, hm1, hm2, fun L' hL' => ⟨c, ?_, fun HJ sJ => repr_bl ?_⟩⟩⟩
      · rw [only hL hL']
        exact .inr (.inr (.inr ⟨p9, _, _, rfl, hp9, .inr (.inr ⟨rfl, .inr (.inr ⟨q8, ps8, rfl, (hps8.same sG).same sI, by omega, hc⟩)⟩)⟩))
      refine ⟨_, rfl, repr_bl ?_⟩
      refine ⟨rfl, _, rfl, ?_⟩
      rw [decide_eq_true rfl]
      exact iteF ⟨_, _, rfl, sFI.trans sJ⟩
    rintro σ HF ⟨v10, v14, rfl, sF⟩
    have haF := sF _ _ haE
    have hSF := sF.seq hSE
    have h7F : HF p7 = some (.lst xs) := sF _ _ (bE _ _ (hP13.pairs h7 hx7) (s1317 _ _ h7))
    refine ⟨(by show 0 ≤ sizeLine; decide), fun o1 no1 => ?_⟩
    obtain ⟨Ho1, eo1, so1, ho1⟩ := fresh (.tup ([] : List V)) no1
    rw [eo1]
    refine ⟨(by show 2 ≤ sizeLine; decide), fun o2 no2 => ?_⟩
    obtain ⟨Ho2, eo2, so2, ho2⟩ := fresh (.lst [V.str (("one" : String) : Str), .int 0]) no2
    rw [eo2]
    refine ⟨_, rfl, (by show 2 ≤ sizeLine; decide), fun o3 no3 => ?_⟩
    obtain ⟨Ho3, eo3, so3, ho3⟩ := fresh (.tup [V.str (("one" : String) : Str), .int (-1)]) no3
    rw [eo3]
    refine ⟨_, rfl, a, _, rfl, .inl (((so1.trans so2).trans so3).seq hSF), (by show 2 ≤ sizeLine; decide), fun o4 no4 => ?_⟩
    obtain ⟨Ho4, eo4, so4, ho4⟩ := fresh (.tup [V.str (("one" : String) : Str), .int ((S.map V.int).length : Int)]) no4
    rw [eo4]
    refine ⟨(by show 2 ≤ sizeLine; decide), fun o5 no5 => ?_⟩
    obtain ⟨Ho5, eo5, so5, ho5⟩ := fresh (.tup [V.str (("one" : String) : Str), .bl true]) no5
    rw [eo5]
    refine ⟨(by show 2 ≤ sizeLine; decide), fun o6 no6 => ?_⟩
    obtain ⟨Ho6, eo6, so6, ho6⟩ := fresh (.tup [V.str (("one" : String) : Str), .str (("0" : String) : Str)]) no6
    rw [eo6]
    refine ⟨(by show 3 ≤ sizeLine; decide), fun o7 no7 => ?_⟩
    obtain ⟨Ho7, eo7, so7, ho7⟩ := fresh (.tup [V.str (("one" : String) : Str), .int 0, .int 0]) no7
    rw [eo7]
    refine ⟨(by show 9 ≤ sizeLine; decide), fun o8 no8 => ?_⟩
    obtain ⟨Ho8, eo8, so8, ho8⟩ := fresh (.lst [V.non, .ref o1, .str (("one" : String) : Str), .ref o2, .ref o3, .ref o4, .ref o5, .ref o6, .ref o7]) no8
    rw [eo8]
    refine ⟨_, rfl, _, rfl, p7, xs, rfl, .inl ⟨.inl (.inl (so8 _ _ (so7 _ _ (so6 _ _ (so5 _ _ (so4 _ _ (so3 _ _ (so2 _ _ (so1 _ _ h7F))))))))), fun o9 no9 => ?_⟩⟩
    obtain ⟨Ho9, eo9, so9, ho9⟩ := fresh (.tup xs) no9
    rw [eo9]
    refine ⟨(by show 2 ≤ sizeLine; decide), fun o10 no10 => ?_⟩
    obtain ⟨Ho10, eo10, so10, ho10⟩ := fresh (.tup [V.str (("runs" : String) : Str), .ref o9]) no10
    rw [eo10]
    refine ⟨(by show 2 ≤ sizeLine; decide), fun o11 no11 => ?_⟩
    obtain ⟨Ho11, eo11, so11, ho11⟩ := fresh (.tup [V.str (("runs" : String) : Str), .non]) no11
    rw [eo11]
    refine ⟨(by show 1 ≤ sizeLine; decide), fun o12 no12 => ?_⟩
    obtain ⟨Ho12, eo12, so12, ho12⟩ := fresh (.lst [V.non]) no12
    rw [eo12]
    refine ⟨_, rfl, o12, _, _, rfl, rfl, ho12, by show (-((2 : Int) ^ 63)) ≤ (m : Int); omega, by show (m : Int) < 2 ^ 63; omega, by rw [sizeLine_eq, Int.toNat_natCast]; show 1 * m ≤ _; omega, fun o13 no13 => ?_⟩
    obtain ⟨Ho13, eo13, so13, ho13⟩ := fresh (.lst (List.replicate (Int.toNat (m : Int)) [V.non]).flatten) no13
    rw [eo13]
    refine ⟨(by show 2 ≤ sizeLine; decide), fun o14 no14 => ?_⟩
    obtain ⟨Ho14, eo14, so14, ho14⟩ := fresh (.tup [V.str (("runs" : String) : Str), .ref o13]) no14
    rw [eo14]
    refine ⟨(by show 2 ≤ sizeLine; decide), fun o15 no15 => ?_⟩
    obtain ⟨Ho15, eo15, so15, ho15⟩ := fresh (.lst [V.int 0, .int 1]) no15
    rw [eo15]
    refine ⟨(by show 1 ≤ sizeLine; decide), fun o16 no16 => ?_⟩
    obtain ⟨Ho16, eo16, so16, ho16⟩ := fresh (.lst [V.ref o15]) no16
    rw [eo16]
    refine ⟨_, rfl, o16, _, _, rfl, rfl, ho16, by show (-((2 : Int) ^ 63)) ≤ (m : Int); omega, by show (m : Int) < 2 ^ 63; omega, by rw [sizeLine_eq, Int.toNat_natCast]; show 1 * m ≤ _; omega, fun o17 no17 => ?_⟩
    obtain ⟨Ho17, eo17, so17, ho17⟩ := fresh (.lst (List.replicate (Int.toNat (m : Int)) [V.ref o15]).flatten) no17
    rw [eo17]
    refine ⟨(by show 2 ≤ sizeLine; decide), fun o18 no18 => ?_⟩
    obtain ⟨Ho18, eo18, so18, ho18⟩ := fresh (.tup [V.str (("runs" : String) : Str), .ref o17]) no18
    rw [eo18]
    refine ⟨(by show 4 ≤ sizeLine; decide), fun o19 no19 => ?_⟩
    obtain ⟨Ho19, eo19, so19, ho19⟩ := fresh (.lst [V.ref o10, .ref o11, .ref o14, .ref o18]) no19
    rw [eo19]
    refine ⟨o8, o19, _, _, rfl, rfl, (so19 _ _ (so18 _ _ (so17 _ _ (so16 _ _ (so15 _ _ (so14 _ _ (so13 _ _ (so12 _ _ (so11 _ _ (so10 _ _ (so9 _ _ ho8))))))))))), ho19, by show 9 + 4 ≤ sizeLine; decide, fun o20 no20 => ?_⟩
    obtain ⟨Ho20, eo20, so20, ho20⟩ := fresh (.lst ([V.non, .ref o1, .str (("one" : String) : Str), .ref o2, .ref o3, .ref o4, .ref o5, .ref o6, .ref o7] ++ [V.ref o10, .ref o11, .ref o14, .ref o18])) no20
    rw [eo20]
    have ho20 : Ho20 o20 = some (.lst [V.non, .ref o1, .str (("one" : String) : Str), .ref o2, .ref o3, .ref o4, .ref o5, .ref o6, .ref o7, .ref o10, .ref o11, .ref o14, .ref o18]) := ho20
    refine ⟨_, rfl, (by show 2 ≤ sizeLine; decide), fun o21 no21 => ?_⟩
    obtain ⟨Ho21, eo21, so21, ho21⟩ := fresh (.tup [V.str (("two" : String) : Str), .int 0]) no21
    rw [eo21]
    refine ⟨(by show 2 ≤ sizeLine; decide), fun o22 no22 => ?_⟩
    obtain ⟨Ho22, eo22, so22, ho22⟩ := fresh (.tup [V.int 1, .int 0]) no22
    rw [eo22]
    refine ⟨(by show 2 ≤ sizeLine; decide), fun o23 no23 => ?_⟩
    obtain ⟨Ho23, eo23, so23, ho23⟩ := fresh (.lst [V.ref o21, .ref o22]) no23
    rw [eo23]
    refine ⟨o20, o23, _, _, rfl, rfl, (so23 _ _ (so22 _ _ (so21 _ _ ho20))), ho23, by show 13 + 2 ≤ sizeLine; decide, fun o24 no24 => ?_⟩
    obtain ⟨Ho24, eo24, so24, ho24⟩ := fresh (.lst ([V.non, .ref o1, .str (("one" : String) : Str), .ref o2, .ref o3, .ref o4, .ref o5, .ref o6, .ref o7, .ref o10, .ref o11, .ref o14, .ref o18] ++ [V.ref o21, .ref o22])) no24
    rw [eo24]
    have ho24 : Ho24 o24 = some (.lst [V.non, .ref o1, .str (("one" : String) : Str), .ref o2, .ref o3, .ref o4, .ref o5, .ref o6, .ref o7, .ref o10, .ref o11, .ref o14, .ref o18, .ref o21, .ref o22]) := ho24
    have zO := (((((((((((((((((((((((so1.trans so2).trans so3).trans so4).trans so5).trans so6).trans so7).trans so8).trans so9).trans so10).trans so11).trans so12).trans so13).trans so14).trans so15).trans so16).trans so17).trans so18).trans so19).trans so20).trans so21).trans so22).trans so23).trans so24)
    have fO : ∀ x ∈ [V.non, .ref o1, .str (("one" : String) : Str), .ref o2, .ref o3, .ref o4, .ref o5, .ref o6, .ref o7, .ref o10, .ref o11, .ref o14, .ref o18, .ref o21, .ref o22], PaperV K Ho24 x S t L m false := by
      intro x hx
      simp only [List.mem_cons, List.not_mem_nil, or_false] at hx
      rcases hx with rfl | rfl | rfl | rfl | rfl | rfl | rfl | rfl | rfl | rfl | rfl | rfl | rfl | rfl | rfl
      · exact .inl ⟨⟨_, .base .non, by decide +kernel⟩, rfl⟩
      · exact .inr (.inl ⟨o1, _, rfl, (so24 _ _ (so23 _ _ (so22 _ _ (so21 _ _ (so20 _ _ (so19 _ _ (so18 _ _ (so17 _ _ (so16 _ _ (so15 _ _ (so14 _ _ (so13 _ _ (so12 _ _ (so11 _ _ (so10 _ _ (so9 _ _ (so8 _ _ (so7 _ _ (so6 _ _ (so5 _ _ (so4 _ _ (so3 _ _ (so2 _ _ ho1))))))))))))))))))))))), by decide, by decide, rfl⟩)
      · exact .inl ⟨⟨_, .base (.str _), by decide +kernel⟩, rfl⟩
      · exact .inl ⟨⟨_, .base (.lst (so24 _ _ (so23 _ _ (so22 _ _ (so21 _ _ (so20 _ _ (so19 _ _ (so18 _ _ (so17 _ _ (so16 _ _ (so15 _ _ (so14 _ _ (so13 _ _ (so12 _ _ (so11 _ _ (so10 _ _ (so9 _ _ (so8 _ _ (so7 _ _ (so6 _ _ (so5 _ _ (so4 _ _ (so3 _ _ ho2))))))))))))))))))))))), by decide +kernel⟩, rfl⟩
      · exact .inr (.inr (.inr ⟨o3, _, _, rfl, (so24 _ _ (so23 _ _ (so22 _ _ (so21 _ _ (so20 _ _ (so19 _ _ (so18 _ _ (so17 _ _ (so16 _ _ (so15 _ _ (so14 _ _ (so13 _ _ (so12 _ _ (so11 _ _ (so10 _ _ (so9 _ _ (so8 _ _ (so7 _ _ (so6 _ _ (so5 _ _ (so4 _ _ ho3))))))))))))))))))))), .inl ⟨rfl, .inl ⟨.inl ⟨_, rfl, (decide_eq_false fun z => absurd z.1 (by decide)).symm⟩, rfl⟩⟩⟩))
      · exact .inr (.inr (.inr ⟨o4, _, _, rfl, (so24 _ _ (so23 _ _ (so22 _ _ (so21 _ _ (so20 _ _ (so19 _ _ (so18 _ _ (so17 _ _ (so16 _ _ (so15 _ _ (so14 _ _ (so13 _ _ (so12 _ _ (so11 _ _ (so10 _ _ (so9 _ _ (so8 _ _ (so7 _ _ (so6 _ _ (so5 _ _ ho4)))))))))))))))))))), .inl ⟨rfl, .inl ⟨.inl ⟨_, rfl, (decide_eq_false fun z => absurd (z.2 _ rfl) (by rw [List.length_map]; omega)).symm⟩, rfl⟩⟩⟩))
      · exact .inr (.inr (.inr ⟨o5, _, _, rfl, (so24 _ _ (so23 _ _ (so22 _ _ (so21 _ _ (so20 _ _ (so19 _ _ (so18 _ _ (so17 _ _ (so16 _ _ (so15 _ _ (so14 _ _ (so13 _ _ (so12 _ _ (so11 _ _ (so10 _ _ (so9 _ _ (so8 _ _ (so7 _ _ (so6 _ _ ho5))))))))))))))))))), .inl ⟨rfl, .inl ⟨.inr ⟨.inl ⟨_, rfl⟩, rfl⟩, rfl⟩⟩⟩))
      · exact .inr (.inr (.inr ⟨o6, _, _, rfl, (so24 _ _ (so23 _ _ (so22 _ _ (so21 _ _ (so20 _ _ (so19 _ _ (so18 _ _ (so17 _ _ (so16 _ _ (so15 _ _ (so14 _ _ (so13 _ _ (so12 _ _ (so11 _ _ (so10 _ _ (so9 _ _ (so8 _ _ (so7 _ _ ho6)))))))))))))))))), .inl ⟨rfl, .inl ⟨.inr ⟨.inr ⟨_, .base (.str _), by decide +kernel⟩, rfl⟩, rfl⟩⟩⟩))
      · exact .inr (.inl ⟨o7, _, rfl, (so24 _ _ (so23 _ _ (so22 _ _ (so21 _ _ (so20 _ _ (so19 _ _ (so18 _ _ (so17 _ _ (so16 _ _ (so15 _ _ (so14 _ _ (so13 _ _ (so12 _ _ (so11 _ _ (so10 _ _ (so9 _ _ (so8 _ _ ho7))))))))))))))))), by decide, by decide, rfl⟩)
      · exact .inr (.inr (.inr ⟨o10, _, _, rfl, (so24 _ _ (so23 _ _ (so22 _ _ (so21 _ _ (so20 _ _ (so19 _ _ (so18 _ _ (so17 _ _ (so16 _ _ (so15 _ _ (so14 _ _ (so13 _ _ (so12 _ _ (so11 _ _ ho10)))))))))))))), .inr (.inr ⟨rfl, .inl ⟨⟨_, .base (.tup (so24 _ _ (so23 _ _ (so22 _ _ (so21 _ _ (so20 _ _ (so19 _ _ (so18 _ _ (so17 _ _ (so16 _ _ (so15 _ _ (so14 _ _ (so13 _ _ (so12 _ _ (so11 _ _ (so10 _ _ ho9)))))))))))))))), by decide +kernel⟩, rfl⟩⟩)⟩))
      · exact .inr (.inr (.inr ⟨o11, _, _, rfl, (so24 _ _ (so23 _ _ (so22 _ _ (so21 _ _ (so20 _ _ (so19 _ _ (so18 _ _ (so17 _ _ (so16 _ _ (so15 _ _ (so14 _ _ (so13 _ _ (so12 _ _ ho11))))))))))))), .inr (.inr ⟨rfl, .inl ⟨⟨_, .base .non, by decide +kernel⟩, rfl⟩⟩)⟩))
      · exact .inr (.inr (.inr ⟨o14, _, _, rfl, (so24 _ _ (so23 _ _ (so22 _ _ (so21 _ _ (so20 _ _ (so19 _ _ (so18 _ _ (so17 _ _ (so16 _ _ (so15 _ _ ho14)))))))))), .inr (.inr ⟨rfl, .inr (.inl ⟨o13, _, rfl, (so24 _ _ (so23 _ _ (so22 _ _ (so21 _ _ (so20 _ _ (so19 _ _ (so18 _ _ (so17 _ _ (so16 _ _ (so15 _ _ (so14 _ _ ho13))))))))))), by rw [rep_len]; omega, .inr (rep_no ⟨_, .base .non, by decide +kernel⟩ small_non), rfl⟩)⟩)⟩))
      · exact .inr (.inr (.inr ⟨o18, _, _, rfl, (so24 _ _ (so23 _ _ (so22 _ _ (so21 _ _ (so20 _ _ (so19 _ _ ho18)))))), .inr (.inr ⟨rfl, .inr (.inl ⟨o17, _, rfl, (so24 _ _ (so23 _ _ (so22 _ _ (so21 _ _ (so20 _ _ (so19 _ _ (so18 _ _ ho17))))))), by rw [rep_len]; omega, .inr (rep_no ⟨_, .base (.lst (so24 _ _ (so23 _ _ (so22 _ _ (so21 _ _ (so20 _ _ (so19 _ _ (so18 _ _ (so17 _ _ (so16 _ _ ho15)))))))))), by decide +kernel⟩ (small_row (ns := [0, 1]) (so24 _ _ (so23 _ _ (so22 _ _ (so21 _ _ (so20 _ _ (so19 _ _ (so18 _ _ (so17 _ _ (so16 _ _ ho15))))))))))), rfl⟩)⟩)⟩))
      · exact .inr (.inr (.inr ⟨o21, _, _, rfl, (so24 _ _ (so23 _ _ (so22 _ _ ho21))), .inr (.inl ⟨by decide, by decide, rfl⟩)⟩))
      · exact .inr (.inr (.inl ⟨o22, _, _, rfl, (so24 _ _ (so23 _ _ ho22)), ⟨_, .base (.int _), by decide +kernel⟩, rfl⟩))
    have hO := ho24
    have haO := zO _ _ haF
    refine ⟨_, rfl, o24, rfl, ⟨_, .inl (.inl hO)⟩, fun D3 nD3 => ?_⟩
    refine lc_selL (K := K) (xs := [V.non, .ref o1, .str (("one" : String) : Str), .ref o2, .ref o3, .ref o4, .ref o5, .ref o6, .ref o7, .ref o10, .ref o11, .ref o14, .ref o18, .ref o21, .ref o22]) ([V.non, .ref o1, .str (("one" : String) : Str), .ref o2, .ref o3, .ref o4, .ref o5, .ref o6, .ref o7, .ref o10, .ref o11, .ref o14, .ref o18, .ref o21, .ref o22].map fun _ => none) nD3 (.inl (.inl hO)) (by rw [List.length_map]) (by show 15 < sizeLine; decide) (fun x => rfl) ?_ ?_
    · intro k y o HX hy ho sX Qt qt
      rw [List.getElem?_map, hy] at ho
      cases ho
      have hv := fO y (List.mem_of_getElem? hy)
      refine ⟨_, rfl, _, rfl, _, rfl, _, rfl, _, _, _, _, rfl, right_starts (sX _ _ haO) hg ht hm1 hm2 ⟨t, m, rfl, rfl, ht, hm1, hm2, fun L' hL' => ⟨false, ?_, fun HY sY => ?_⟩⟩⟩
      · rw [only hL hL']
        exact hv.same sX
      · exact ⟨_, _, rfl, rfl, _, rfl, iteF (qt _ sY)⟩
    · intro HX sX hDX
      rw [fm_noneN] at hDX
      refine ⟨Nat.zero_le _, fun pz npz => ?_⟩
      refine eq_lst (ns := []) (.inl (.inl (same_upd npz _ _ hDX))) (.inl (.inl upd_same)) ?_
      have sFin := ((sF.trans zO).trans sX).trans (same_upd (o := .lst []) npz)
      exact q _ (((But.of s017).trans bE).same sFin) (hPE.same sFin)
end
end My

namespace My
open PySem PySem.Spec PyProof.Rows L2 Pre
/-! ### the law: numbers many times as great, the best tables -/
theorem rowsEq : ∀ xs ys : List (List Int), PyData.eqvAll (xs.map rowD) (ys.map rowD) = decide (xs = ys)
  | [], [] => rfl
  | [], y :: ys => by rw [decide_eq_false (fun z => nomatch z)]; rfl
  | x :: xs, [] => by rw [decide_eq_false (fun z => nomatch z)]; rfl
  | x :: xs, y :: ys => by
    rw [List.map_cons, List.map_cons, PyData.eqvAll, rowsEq xs ys, rowD_eqv]
    by_cases h : x = y
    · subst h
      by_cases k : xs = ys
      · subst k; simp
      · simp [k]
    · simp [h]
theorem rowsEq' (xs ys : List (List Int)) : PyData.eqv (.list (xs.map rowD)) (.list (ys.map rowD)) = decide (xs = ys) := by rw [PyData.eqv, rowsEq]
theorem lastI_map (S : List Int) (k : Int) (h : S ≠ []) : lastI (S.map (· * k)) = lastI S * k := by
  unfold lastI
  have hl : 0 < S.length := List.length_pos_iff.mpr h
  rw [List.length_map, List.getD_eq_getElem?_getD, List.getD_eq_getElem?_getD, List.getElem?_map, List.getElem?_eq_getElem (by omega)]
  rfl
theorem GoodI.mul {S : List Int} {k : Int} (h : GoodI S) (hk : 0 < k) : GoodI (S.map (· * k)) := by
  obtain ⟨h1, h2, r, rfl⟩ := h
  refine ⟨by rw [List.length_map]; exact h1, List.pairwise_map.mpr (h2.imp fun h => Int.mul_lt_mul_of_pos_right h hk), r.map (· * k), by rw [List.map_cons, Int.zero_mul]⟩
/-- the best tables -/
def best (S : List Int) (t L : Int) (m : Nat) : List (List Int) := (goods t L 0 (S.drop 1) (m - 1)).map (0 :: ·)
theorem best_len (S : List Int) (t L : Int) (m : Nat) : (best S t L m).length = cntG t L 0 (S.drop 1) (m - 1) := by unfold best cntG; rw [List.length_map]
theorem best_sel {S : List Int} {t L : Int} {m : Nat} (e : bst t 0 (S.drop 1) (m - 1) = some L) :
    ((tables (S.drop 1) (m - 1)).map fun r => if stepL (r.getD 0 0) (r.drop 1) t = L then some (rowD (id r)) else none).filterMap id = (best S t L m).map rowD := by
  rw [sel_if (fun r => stepL (r.getD 0 0) (r.drop 1) t = L) id, List.map_id]
  congr 1
  unfold best tables
  rw [goods_best e, List.filter_map]
  rfl
theorem tables_head {r : List Int} {k : Nat} {x : List Int} (h : x ∈ tables r k) : ∃ ys, x = 0 :: ys ∧ ys ∈ tabs r k := by
  obtain ⟨ys, hy, rfl⟩ := List.mem_map.mp h
  exact ⟨ys, rfl, hy⟩
theorem tables_len {r : List Int} {k : Nat} {x : List Int} (h : x ∈ tables r k) : x.length = k + 1 := by
  obtain ⟨ys, rfl, hy⟩ := tables_head h
  rw [List.length_cons, (tabs_mem.mp hy).2]
theorem least_of {S : List Int} {t L u : Int} {k : Nat} (e : bst t 0 (S.drop 1) k = some L) (hu : u ∈ (tables (S.drop 1) k).map fun r => stepL (r.getD 0 0) (r.drop 1) t) (hm : ∀ n ∈ (tables (S.drop 1) k).map (fun r => stepL (r.getD 0 0) (r.drop 1) t), u ≤ n) : u = L := by
  have ee : (tables (S.drop 1) k).map (fun r => stepL (r.getD 0 0) (r.drop 1) t) = (tabs (S.drop 1) k).map fun xs => stepL 0 xs t := by
    unfold tables
    rw [List.map_map]
    rfl
  rw [ee] at hu hm
  rcases bst_min t 0 (S.drop 1) k with ⟨e', _⟩ | ⟨v, e', hv, hle⟩
  · rw [e] at e'; cases e'
  · rw [e] at e'
    cases e'
    exact Int.le_antisymm (hm _ hv) (hle _ hu)
theorem ifs_join {c : TT} {A B rest : TS} {D : L2.Ends} {rt : VK} {bk ct : L2.St → Hp → Prop} {σ : L2.St} {H : Hp} (Pv : L2.St → Hp → Prop) (h : ∀ nx : L2.St → Hp → Prop, (∀ σ' H', Pv σ' H' → nx σ' H') → tIfS c A B { nx := nx, rt := D.rt, bk := D.bk, ct := D.ct } σ H) (k : ∀ σ' H', Pv σ' H' → rest D σ' H') :
    L2.Ends.nx { nx := tSeq (tIfS c A B) rest D, rt := rt, bk := bk, ct := ct } σ H := h _ k
local macro_rules | `(tactic| walk_at "go") => `(tactic| repeat (first | (with_reducible first | refine iteT ?_ | refine iteF ?_ | refine iteNtt ?_ | refine iteNff ?_ | refine iteET (by omega) ?_ | refine iteEF (by omega) ?_ | refine iteENT (by omega) ?_ | refine iteENF (by omega) ?_ | refine iteDT (by omega) ?_ | refine iteDF (by omega) ?_ | refine iteNT (by omega) ?_ | refine iteNF (by omega) ?_) | refine ⟨_, rfl, ?_⟩ | refine ⟨_, _, rfl, rfl, ?_⟩ | refine ⟨_, _, rfl, ?_⟩ | refine ⟨rfl, ?_⟩ | refine .inl ⟨_, rfl, ?_⟩ | refine .inr ⟨_, rfl, ?_⟩))
local macro_rules | `(tactic| walk_at "b") => `(tactic| try dsimp (config := { proj := false, iota := false, eta := false, zeta := false }) only)
end My

namespace My
open PySem PySem.Spec PyProof.Rows L2 Pre
/-! ### the law of whole tables of starts -/
local macro_rules | `(tactic| walk_at "go") => `(tactic| repeat (first | (with_reducible first | refine iteT ?_ | refine iteF ?_ | refine iteNtt ?_ | refine iteNff ?_ | refine iteET (by omega) ?_ | refine iteEF (by omega) ?_ | refine iteENT (by omega) ?_ | refine iteENF (by omega) ?_ | refine iteDT (by omega) ?_ | refine iteDF (by omega) ?_ | refine iteNT (by omega) ?_ | refine iteNF (by omega) ?_) | refine ⟨_, rfl, ?_⟩ | refine ⟨_, _, rfl, rfl, ?_⟩ | refine ⟨_, _, rfl, ?_⟩ | refine ⟨rfl, ?_⟩ | refine .inl ⟨_, rfl, ?_⟩ | refine .inr ⟨_, rfl, ?_⟩))
local macro_rules | `(tactic| walk_at "b") => `(tactic| try dsimp (config := { proj := false, iota := false, eta := false, zeta := false }) only)
section
variable {P : Program} {w : World} {K : PySem.W.Frag} {mg : Str → Option Value} {base : Heap} [pf : Sup.PF P fileS]
def sp_law (K : PySem.W.Frag) : Sp := fun vs H Q _ => ∃ (a : Addr) (ns : List Int), vs = [.ref a] ∧ SqL K H a (ns.map V.int) ∧ ns.length ≤ 63 ∧ ∀ H', Q (.bl true) H'
theorem G_law (T : Top K mg) : FnG P w K mg base CX0 10 T.f_law T.fd_law ["_law_script"] (sp_law K) := by
  refine FnG.body T.F_law sc_law (fun vs H Q E h => by obtain ⟨z, ns, rfl, _⟩ := h; rfl) (fun cdv A outer s H vs Q E gd hr h => ?_)
  obtain ⟨z, ns, rfl, hZ, hz, q⟩ := h
  refine ⟨_, PSs.nox (pss_cons (ps_set (i := 1) sc_law.nd rfl (by first | exact Or.inl rfl | exact Or.inr rfl) (pe_call (G_law_pump (P := P) T) (hr.mono (by decide)) (by rfl) T.g_law_pump T.F_law_pump.kp T.b_law_pump .nil pass0 (pa_cons (pv 0) (pa_cons pe_int pa_nil))))
  (pss_cons (ps_for PassesOwn.never rfl (pi_range1 (by rfl) T.n_range (pa_cons pe_int pa_nil)) (pg_name (i := 2) sc_law.nd rfl (by first | exact Or.inl rfl | exact Or.inr rfl))
    (pss_cons (ps_set (i := 3) sc_law.nd rfl (by first | exact Or.inl rfl | exact Or.inr rfl) (pe_call (G_law_starts (P := P) T) (hr.mono (by decide)) (by rfl) T.g_law_starts T.F_law_starts.kp T.b_law_starts .nil pass0 (pa_cons (pv 1) pa_nil)))
  (pss_cons (ps_asg (pe_tup (pa_cons (pe_op op_add (pe_op op_add (pe_ix (k_ixL K rfl) (pv 3) (pe_un un_neg pe_int) (fun _ _ => rfl)) pe_int) (pe_call (G_law_cup (P := P) T) (hr.mono (by decide)) (by rfl) T.g_law_cup T.F_law_cup.kp T.b_law_cup .nil pass0 (pa_cons (pv 1) (pa_cons pe_int pa_nil)))) (pa_cons (pe_op op_add pe_int (pe_call (G_law_cup (P := P) T) (hr.mono (by decide)) (by rfl) T.g_law_cup T.F_law_cup.kp T.b_law_cup .nil pass0 (pa_cons (pv 1) (pa_cons (pe_callB (k_len K rfl) (by rfl) T.n_len (by decide +kernel) (pa_cons (pv 3) pa_nil)) pa_nil)))) (pa_cons (pe_callTy (k_listOf K rfl) (by rfl) T.n_list (by decide +kernel) (pa_cons (pv 3) pa_nil)) pa_nil)))) (k_pgT K rfl (by rfl) (pgs_cons (pg_name (i := 8) sc_law.nd rfl (by first | exact Or.inl rfl | exact Or.inr rfl)) (pgs_cons (pg_name (i := 9) sc_law.nd rfl (by first | exact Or.inl rfl | exact Or.inr rfl)) (pgs_cons (pg_name (i := 10) sc_law.nd rfl (by first | exact Or.inl rfl | exact Or.inr rfl)) pgs_nil)))))
  (pss_cons (ps_if (pt_cmpR op_eq (pe_call (G_law_cup (P := P) T) (hr.mono (by decide)) (by rfl) T.g_law_cup T.F_law_cup.kp T.b_law_cup .nil pass0 (pa_cons (pv 1) (pa_cons pe_int pa_nil))) pe_int (nomark _))
    (pss_cons (ps_set (i := 11) sc_law.nd rfl (by first | exact Or.inl rfl | exact Or.inr rfl) (pe_op op_add (pe_op op_powW pe_int pe_int) (pe_call (G_law_cup (P := P) T) (hr.mono (by decide)) (by rfl) T.g_law_cup T.F_law_cup.kp T.b_law_cup .nil pass0 (pa_cons (pv 1) (pa_cons pe_int pa_nil)))))
  (pss_one (ps_asg (pe_tup (pa_cons (pe_lc (own := [("_law_start", 13)]) (g := gName 13) (tt := tYes) (by rfl) sc_law.nd (k_piL K rfl (pv 3)) (blkOk_by (own := [("_law_start", 13)]) (N := N_law) (sc := defScope s_law) (by decide +kernel)) (fun _ _ _ _ _ => (pg_name (i := 13) sc_law.nd rfl (by first | exact Or.inl rfl | exact Or.inr rfl))) (fun _ _ _ _ _ => pts_nil) (fun _ _ _ _ _ => (pe_op op_mul (pv 13) (pv 11)))) (pa_cons (pe_lc (own := [("_law_start", 13)]) (g := gName 13) (tt := tYes) (by rfl) sc_law.nd (k_piL K rfl (pv 3)) (blkOk_by (own := [("_law_start", 13)]) (N := N_law) (sc := defScope s_law) (by decide +kernel)) (fun _ _ _ _ _ => (pg_name (i := 13) sc_law.nd rfl (by first | exact Or.inl rfl | exact Or.inr rfl))) (fun _ _ _ _ _ => pts_nil) (fun _ _ _ _ _ => (pe_op op_mul (pv 13) (pv 11)))) (pa_cons (pe_op op_mul (pv 8) (pv 11)) pa_nil)))) (k_pgT K rfl (by rfl) (pgs_cons (pg_name (i := 3) sc_law.nd rfl (by first | exact Or.inl rfl | exact Or.inr rfl)) (pgs_cons (pg_name (i := 10) sc_law.nd rfl (by first | exact Or.inl rfl | exact Or.inr rfl)) (pgs_cons (pg_name (i := 8) sc_law.nd rfl (by first | exact Or.inl rfl | exact Or.inr rfl)) pgs_nil)))))))
    pss_nil)
  (pss_cons (ps_set (i := 4) sc_law.nd rfl (by first | exact Or.inl rfl | exact Or.inr rfl) (pe_call (G_law_tables (P := P) T) (hr.mono (by decide)) (by rfl) T.g_law_tables T.F_law_tables.kp T.b_law_tables .nil pass0 (pa_cons (pv 3) (pa_cons (pv 9) pa_nil))))
  (pss_cons (ps_set (i := 5) sc_law.nd rfl (by first | exact Or.inl rfl | exact Or.inr rfl) (pe_callB (k_min K rfl rfl) (by rfl) T.n_min (by decide +kernel) (pa_cons (pe_lc (own := [("_law_one", 12)]) (g := gName 12) (tt := tYes) (by rfl) sc_law.nd (k_piL K rfl (pv 4)) (blkOk_by (own := [("_law_one", 12)]) (N := N_law) (sc := defScope s_law) (by decide +kernel)) (fun _ _ _ _ _ => (pg_name (i := 12) sc_law.nd rfl (by first | exact Or.inl rfl | exact Or.inr rfl))) (fun _ _ _ _ _ => pts_nil) (fun _ _ _ _ _ => (pe_call (G_law_step (P := P) T) (hr.mono (by decide)) (by rfl) T.g_law_step T.F_law_step.kp T.b_law_step .nil pass0 (pa_cons (pv 12) (pa_cons (pv 8) pa_nil))))) pa_nil)))
  (pss_cons (ps_setLc (i := 6) (own := [("_law_one", 12)]) (g := gName 12) (by rfl) sc_law.nd rfl rfl (sw_true rfl rfl rfl (by decide +kernel)) (k_piL K rfl (pv 4)) (blkOk_by (own := [("_law_one", 12)]) (N := N_law) (sc := defScope s_law) (by decide +kernel)) (fun _ _ _ _ _ => (pg_name (i := 12) sc_law.nd rfl (by first | exact Or.inl rfl | exact Or.inr rfl))) (fun _ _ _ _ _ => (pts_one (pt_cmpR op_eq (pe_call (G_law_step (P := P) T) (hr.mono (by decide)) (by rfl) T.g_law_step T.F_law_step.kp T.b_law_step .nil pass0 (pa_cons (pv 12) (pa_cons (pv 8) pa_nil))) (pv 5) (nomark _)))) (fun _ _ _ _ _ => (pv 12)))
  (pss_cons (ps_if (pt_cmpR op_ne (pe_call (G_least_step (P := P) T) (hr.mono (by decide)) (by rfl) T.g_least_step T.F_least_step.kp T.b_least_step .nil passL (pa_cons (pv 3) (pa_cons (pv 8) (pa_cons (pv 9) pa_nil)))) (pv 5) (nomark _))
    (pss_one (ps_ret pe_bl))
    pss_nil)
  (pss_cons (ps_if (pt_cmpR op_ne (pe_callKO (G_how_many_tables (P := P) T) (hr.mono (by decide)) (by rfl) T.g_how_many_tables T.F_how_many_tables.kp (FunD.kbindsN T.F_how_many_tables ["many", "total", "starts"] List.reverse Vals_rev (fun _ _ _ _ _ _ ws hl => match ws, hl with | [_, _, _], _ => rfl)) passL (pk_cons (pv 9) (pk_cons (pv 8) (pk_cons (pv 3) pk_nil)))) (pe_callB (k_len K rfl) (by rfl) T.n_len (by decide +kernel) (pa_cons (pv 6) pa_nil)) (nomark _))
    (pss_one (ps_ret pe_bl))
    pss_nil)
  (pss_cons (ps_set (i := 7) sc_law.nd rfl (by first | exact Or.inl rfl | exact Or.inr rfl) (pe_call (G_table (P := P) T) (hr.mono (by decide)) (by rfl) T.g_table T.F_table.kp T.b_table .nil passL (pa_cons (pv 3) (pa_cons (pv 8) (pa_cons (pv 9) pa_nil)))))
  (pss_cons (ps_if (PW.pt (pw_or (pt_cmpR (k_notInD K rfl (huD hr)) (pv 7) (pv 6) (by rfl)) (pw_or1 (pt_cmpR (k_neD K rfl hr.units) (pe_lc (own := [("_law_at", 14)]) (g := gName 14) (tt := tYes) (by rfl) sc_law.nd (pi_range1 (by rfl) T.n_range (pa_cons (pe_callB (k_len K rfl) (by rfl) T.n_len (by decide +kernel) (pa_cons (pv 6) pa_nil)) pa_nil)) (blkOk_by (own := [("_law_at", 14)]) (N := N_law) (sc := defScope s_law) (by decide +kernel)) (fun _ _ _ _ _ => (pg_name (i := 14) sc_law.nd rfl (by first | exact Or.inl rfl | exact Or.inr rfl))) (fun _ _ _ _ _ => pts_nil) (fun _ _ _ _ _ => (pe_call (G_table_at (P := P) T) (hr.mono (by decide)) (by rfl) T.g_table_at T.F_table_at.kp T.b_table_at .nil passL (pa_cons (pv 3) (pa_cons (pv 8) (pa_cons (pv 9) (pa_cons (pv 14) pa_nil))))))) (pv 6) (nomark _)))))
    (pss_one (ps_ret pe_bl))
    pss_nil)
  (pss_cons (ps_expr (pe_bm PySem.F.plainAttrs_list PySem.F.slot_list_append PySem.F.type_list_append mt_append (pv 7) (pa_cons pe_int pa_nil)))
  (pss_cons (ps_if (pt_cmpR (k_notInD K rfl (huD hr)) (pe_callKO (G_table (P := P) T) (hr.mono (by decide)) (by rfl) T.g_table T.F_table.kp (FunD.kbindsN T.F_table ["many", "total", "starts"] List.reverse Vals_rev (fun _ _ _ _ _ _ ws hl => match ws, hl with | [_, _, _], _ => rfl)) passL (pk_cons (pv 9) (pk_cons (pv 8) (pk_cons (pv 3) pk_nil)))) (pv 6) (by rfl))
    (pss_one (ps_ret pe_bl))
    pss_nil)
  (pss_cons (ps_if (pt_cmpR (k_neD K rfl hr.units) (pe_callKO (G_table_at (P := P) T) (hr.mono (by decide)) (by rfl) T.g_table_at T.F_table_at.kp (FunD.kbindsN T.F_table_at ["number", "many", "total", "starts"] List.reverse Vals_rev (fun _ _ _ _ _ _ ws hl => match ws, hl with | [_, _, _, _], _ => rfl)) passL (pk_cons pe_int (pk_cons (pv 9) (pk_cons (pv 8) (pk_cons (pv 3) pk_nil))))) (pe_ix (k_ixL K rfl) (pv 6) pe_int (fun _ _ => rfl)) (nomark _))
    (pss_one (ps_ret pe_bl))
    pss_nil)
  (pss_one (ps_if (PW.pt (pw_or (pt_not (pt_val (pe_callG (G_law_papers_right (P := P) T) gd (hr.mono (by decide)) (by rfl) T.g_law_papers_right T.F_law_papers_right.kp T.b_law_papers_right .nil pass0 (pa_cons (pv 1) (pa_cons (pv 3) (pa_cons (pv 8) (pa_cons (pv 9) (pa_cons (pv 5) pa_nil)))))))) (pw_or1 (pt_cmpR (k_neD K rfl hr.units) (pv 3) (pv 10) (nomark _)))))
    (pss_one (ps_ret pe_bl))
    pss_nil))))))))))))))))
  (pss_one (ps_ret (pe_and (pe_cmpR op_eq (pe_call (G_least_step (P := P) T) (hr.mono (by decide)) (by rfl) T.g_least_step T.F_least_step.kp T.b_least_step .nil passL (pa_cons (pe_lst (pa_cons pe_int pa_nil)) (pa_cons pe_int (pa_cons pe_int pa_nil)))) pe_int (nomark _)) (pe_and (pe_cmpR (k_eqD K rfl hr.units) (pe_call (G_table (P := P) T) (hr.mono (by decide)) (by rfl) T.g_table T.F_table.kp T.b_table .nil passL (pa_cons (pe_lst (pa_cons pe_int (pa_cons pe_int (pa_cons pe_int (pa_cons pe_int pa_nil))))) (pa_cons pe_int (pa_cons pe_int pa_nil)))) (pe_lst (pa_cons pe_int (pa_cons pe_int pa_nil))) (nomark _)) (pe_one (pe_callG0 (G_law_refused (P := P) T) gd (hr.mono (by decide)) (by rfl) T.g_law_refused T.F_law_refused.kp T.b_law_refused .nil pass0)))))))), ?_⟩
  refine ⟨_, rfl, z, ns, rfl, hZ, hz, fun H1 g s1 ng g1 => ?_⟩
  refine ⟨_, rfl, (by decide), (by decide), ?_⟩
  refine for_range (lo := 0) (n := ((4 : Int)).toNat) (fun i σ HA => ∃ v2 v3 v4 v5 v6 v7 v8 v9 v10 v11 : Option V, σ = [some (.ref z), some (.ref g), v2, v3, v4, v5, v6, v7, v8, v9, v10, v11, none, none, none] ∧ PumpAt HA g) ⟨none, none, none, none, none, none, none, none, none, none, rfl, g1⟩ ?_ ?_
  · rintro i σ HA hi ⟨v2, v3, v4, v5, v6, v7, v8, v9, v10, v11, rfl, gA⟩
    refine ⟨_, rfl, g, rfl, gA, fun H2 a S b2 g2 na ha hg hl9 hS6 => ?_⟩
    have ag : a ≠ g := fun e => by
      obtain ⟨ns', h1, _⟩ := gA
      rw [e, h1] at na
      cases na
    obtain ⟨z0, z1⟩ := hg.at0
    have hS2 : SqL K H2 a (S.map V.int) := .inl (.inl ha)
    refine ⟨_, rfl, _, rfl, a, _, _, _, rfl, rfl, hS2, at_lastI (List.length_pos_iff.mp z1), _, _, rfl, rfl, ?_⟩
    refine ⟨_, rfl, g, 12, rfl, g2, by decide, by decide, fun H3 d1 b3 g3 hd1 => ?_⟩
    refine ⟨_, _, rfl, rfl, ?_⟩
    have ha3 := b3 _ _ ag ha
    have hS3 : SqL K H3 a (S.map V.int) := .inl (.inl ha3)
    refine ⟨_, rfl, _, rfl, a, _, rfl, .inl hS3, g, _, rfl, g3, by rw [List.length_map]; omega, by rw [List.length_map]; omega, fun H4 d2 b4 g4 hd2 => ?_⟩
    rw [List.length_map] at hd2
    refine ⟨_, _, rfl, rfl, ?_⟩
    have ha4 := b4 _ _ ag ha3
    refine ⟨_, rfl, a, _, rfl, .inl (.inl (.inl ha4)), fun hd nhd => ?_⟩
    obtain ⟨H5, e5, s5, hh5⟩ := fresh (.lst (S.map V.int)) nhd
    rw [e5]
    refine ⟨(show 3 ≤ sizeLine by decide), fun tp ntp => ?_⟩
    obtain ⟨H6, e6, s6, htp⟩ := fresh (.tup [.int (lastI S + 1 + (d1 : Int)), .int (1 + (d2 : Int)), .ref hd]) ntp
    rw [e6]
    refine ⟨tp, _, rfl, .inl (.inl htp), rfl, ?_⟩
    refine ⟨_, _, rfl, _, _, rfl, _, _, rfl, rfl, ?_⟩
    have hdg : hd ≠ g := g4.ne nhd
    have g6 := (g4.same s5).same s6
    have ha6 := s6 _ _ (s5 _ _ ha4)
    have hh6 := s6 _ _ hh5
    refine ifs_join (fun σ' H' => ∃ (S' : List Int) (pS pH : Addr) (t : Int) (v11 : Option V), σ' = [some (.ref z), some (.ref g), some (.int (0 + (i : Int))), some (.ref pS), v4, v5, v6, v7, some (.int t), some (.int ((1 + d2 : Nat) : Int)), some (.ref pH), v11, none, none, none] ∧ PumpAt H' g ∧ H' pS = some (.lst (S'.map V.int)) ∧ H' pH = some (.lst (S'.map V.int)) ∧ pS ≠ g ∧ pH ≠ g ∧ GoodI S' ∧ S'.length ≤ 9 ∧ lastI S' < t ∧ 1 + d2 ≤ S'.length) (fun nx qn => ?_) ?_
    · refine ⟨_, rfl, g, 4, rfl, g6, by decide, by decide, fun H7 d3 b7 g7 hd3 => ?_⟩
      refine ⟨rfl, _, rfl, ?_⟩
      have ha7 := b7 _ _ ag ha6
      have hh7 := b7 _ _ hdg hh6
      by_cases c : d3 = 0
      · subst c
        refine iteT ?_
        refine ⟨_, _, rfl, rfl, ⟨by decide, by decide +kernel⟩, _, rfl, g, 9, rfl, g7, by decide, by decide, fun H8 d4 b8 g8 hd4 => ⟨_, _, rfl, rfl, ?_⟩⟩
        have e9 : (10 : Int) ^ (9 : Int).toNat = 1000000000 := by decide +kernel
        rw [e9]
        have ha8 := b8 _ _ ag ha7
        obtain ⟨k, hk⟩ : ∃ k : Int, k = 1000000000 + (d4 : Int) := ⟨_, rfl⟩
        dsimp only
        rw [← hk]
        have hk0 : 0 < k := by omega
        have hkc : -(2 ^ 64) < k ∧ k < 2 ^ 64 := ⟨by omega, by omega⟩
        refine ⟨_, rfl, a, rfl, ⟨_, .inl (.inl ha8)⟩, fun D nD => ?_⟩
        refine lc_mapL (K := K) (a := a) (xs := S.map V.int) ((S.map (· * k)).map V.int) nD (.inl (.inl ha8)) (by simp) (by rw [List.length_map]; exact small4 (by omega)) (fun x => rfl) ?_ ?_
        · intro j x y H' hx hy s Qt qt
          obtain ⟨n, hn, rfl⟩ := int_at hx
          obtain ⟨n', hn', rfl⟩ := int_at hy
          rw [List.getElem?_map, hn] at hn'
          cases hn'
          exact ⟨_, rfl, _, rfl, _, _, rfl, rfl, .inr hkc, qt _ (Same.refl _)⟩
        intro H9 s9 hD9
        have ha9 := s9 _ _ ha8
        refine ⟨_, rfl, a, rfl, ⟨_, .inl (.inl ha9)⟩, fun D2 nD2 => ?_⟩
        refine lc_mapL (K := K) (a := a) (xs := S.map V.int) ((S.map (· * k)).map V.int) nD2 (.inl (.inl ha9)) (by simp) (by rw [List.length_map]; exact small4 (by omega)) (fun x => rfl) ?_ ?_
        · intro j x y H' hx hy s Qt qt
          obtain ⟨n, hn, rfl⟩ := int_at hx
          obtain ⟨n', hn', rfl⟩ := int_at hy
          rw [List.getElem?_map, hn] at hn'
          cases hn'
          exact ⟨_, rfl, _, rfl, _, _, rfl, rfl, .inr hkc, qt _ (Same.refl _)⟩
        intro H10 s10 hD10
        refine ⟨_, rfl, _, rfl, _, _, rfl, rfl, .inr hkc, (show 3 ≤ sizeLine by decide), fun tq ntq => ?_⟩
        obtain ⟨H11, e11, s11, htq⟩ := fresh (.tup [.ref D, .ref D2, .int ((lastI S + 1 + (d1 : Int)) * k)]) ntq
        rw [e11]
        refine ⟨tq, _, rfl, .inl (.inl htq), rfl, ?_⟩
        refine ⟨_, _, rfl, _, _, rfl, _, _, rfl, rfl, ?_⟩
        have g9 := g8.same s9
        refine qn _ _ ⟨S.map (· * k), D, D2, _, _, rfl, (g9.same s10).same s11, s11 _ _ (s10 _ _ hD9), s11 _ _ hD10, g8.ne nD, g9.ne nD2, hg.mul hk0, by rw [List.length_map]; exact hl9, ?_, by rw [List.length_map]; omega⟩
        rw [lastI_map S k (List.length_pos_iff.mp z1)]
        exact Int.mul_lt_mul_of_pos_right (by omega) hk0
      · rw [decide_eq_false (fun e => c (by have := V.int.inj e; omega))]
        exact iteF (qn _ _ ⟨S, a, hd, _, v11, rfl, g7, ha7, hh7, ag, hdg, hg, hl9, by omega, by omega⟩)
    clear hS2 hS3 ha ha3 ha4 ha6 hh5 hh6 hS6 z0 z1 ag hdg hg hl9 s5 s6 b2 b3 b4 g2 g3 g4 g6 hd1
    rintro σ' HA ⟨S, pS, pH, t, v11, rfl, gA, hA, hH, sg, hg', hg, hl9, ht, hm2⟩
    have hml : (S.drop 1).length = S.length - 1 := List.length_drop ..
    obtain ⟨L, hL⟩ := bst_some t 0 (r := S.drop 1) (k := 1 + d2 - 1) (by omega)
    refine ⟨_, rfl, _, rfl, pS, S, 1 + d2, rfl, .inl (.inl hA), hg, hl9, by omega, hm2, fun H8 p4 s8 np4 hd8 => ?_⟩
    have hA8 := s8 _ _ hA
    obtain ⟨_, xs4, e4, h4, hx4⟩ := hd8.listE
    cases e4
    have hx4l := hx4.len
    rw [List.length_map] at hx4l
    have hrl : (tables (S.drop 1) (1 + d2 - 1)).length ≤ 300 := by
      have h1 := (subs_perm (k := 1 + d2 - 1) (hg.2.1.sublist (List.drop_sublist 1 _))).length_eq
      have h2 := List.length_filter_le (fun x : List Int => decide (x.length = 1 + d2 - 1 + 1)) (subsF (1 + d2 - 1 + 1) (S.drop 1))
      have h3 := subs_len (1 + d2 - 1 + 1) (S.drop 1)
      have h4 : 2 ^ (S.drop 1).length ≤ 2 ^ 8 := Nat.pow_le_pow_right (by decide) (by omega)
      omega
    refine ⟨_, rfl, p4, rfl, ⟨_, .inl (.inl h4)⟩, fun D nD => ?_⟩
    refine lc_dL (K := K) (a := p4) (xs := xs4) (S := []) Has.nil ((tables (S.drop 1) (1 + d2 - 1)).map fun r => some (PyData.int (stepL (r.getD 0 0) (r.drop 1) t))) nD (.inl (.inl h4)) (by rw [List.length_map, hx4l]) (small4 (by omega)) (fun x => rfl) ?_ ?_
    · intro j y o H' hy ho s' hH Qt qt
      obtain ⟨dd, hdd, hyd⟩ := hx4.got hy
      rw [List.getElem?_map] at hdd ho
      obtain ⟨r, hr, rfl⟩ := Option.map_eq_some_iff.mp hdd
      rw [hr] at ho
      cases ho
      obtain ⟨ys, rfl, hys⟩ := tables_head (List.mem_of_getElem? hr)
      obtain ⟨ya, rfl, hya⟩ := hyd.intsE
      refine ⟨_, rfl, _, rfl, ya, 0, ys, t, rfl, .inl (.inl (s' _ _ hya)), by have := (tabs_mem.mp hys).2; omega, fun H'' s'' => ?_⟩
      exact qt _ _ s'' (.int _)
    intro H9 s9 _ d9
    rw [rs_nil, show ((tables (S.drop 1) (1 + d2 - 1)).map fun r => some (PyData.int (stepL (r.getD 0 0) (r.drop 1) t))).filterMap id = ((tables (S.drop 1) (1 + d2 - 1)).map fun r => stepL (r.getD 0 0) (r.drop 1) t).map PyData.int by rw [sel_map, List.map_map]; rfl] at d9
    obtain ⟨_, e9, hD9⟩ := Dt.intsE (ns := (tables (S.drop 1) (1 + d2 - 1)).map fun r => stepL (r.getD 0 0) (r.drop 1) t) d9
    cases e9
    refine ⟨D, _, rfl, .inl (.inl hD9), ?_, fun u hu hmin => ?_⟩
    · rw [List.length_map]
      refine List.length_pos_iff.mpr fun e => tabs_some (S.drop 1) (1 + d2 - 1) (by omega) ?_
      exact List.map_eq_nil_iff.mp e
    obtain rfl : L = u := (least_of hL hu hmin).symm
    have s89 := s8.trans s9
    have h49 := s9 _ _ h4
    refine ⟨_, rfl, p4, rfl, ⟨_, .inl (.inl h49)⟩, fun D2 nD2 => ?_⟩
    refine lc_dL (K := K) (a := p4) (xs := xs4) (S := []) Has.nil ((tables (S.drop 1) (1 + d2 - 1)).map fun r => if stepL (r.getD 0 0) (r.drop 1) t = L then some (rowD (id r)) else none) nD2 (.inl (.inl h49)) (by rw [List.length_map, hx4l]) (small4 (by omega)) (fun x => rfl) ?_ ?_
    · intro j y o H' hy ho s' hH Qt qt
      obtain ⟨dd, hdd, hyd⟩ := hx4.got hy
      rw [List.getElem?_map] at hdd ho
      obtain ⟨r, hr, rfl⟩ := Option.map_eq_some_iff.mp hdd
      rw [hr] at ho
      cases ho
      obtain ⟨ys, rfl, hys⟩ := tables_head (List.mem_of_getElem? hr)
      have hyd' : Dt (rs [D2] H') y (rowD (0 :: ys)) := (hyd.same s9).same fun b u hb => under (S := []) (H := H9) nD2 s' b u (by rw [rs_nil]; exact hb)
      obtain ⟨ya, rfl, hya⟩ := hyd.intsE
      refine ⟨_, rfl, _, rfl, ya, 0, ys, t, rfl, .inl (.inl (s' _ _ (s9 _ _ hya))), by have := (tabs_mem.mp hys).2; omega, fun H'' s'' => ?_⟩
      refine ⟨_, rfl, rfl, _, rfl, ?_⟩
      dsimp only at qt
      by_cases c : stepL ((0 :: ys).getD 0 0) ((0 :: ys).drop 1) t = L
      · rw [if_pos c] at qt
        rw [decide_eq_true (congrArg V.int (show stepL 0 ys t = L from c))]
        exact iteT ⟨_, rfl, qt _ _ s'' (hyd'.same (rs_same s''))⟩
      · rw [if_neg c] at qt
        rw [decide_eq_false (show ¬ V.int (stepL 0 ys t) = V.int L from fun z => c (V.int.inj z))]
        exact iteF (qt none _ s'' trivial)
    intro H10 s10 _ d10
    rw [rs_nil, best_sel hL] at d10
    obtain ⟨_, xs6, e6, h6, hx6⟩ := d10.listE
    cases e6
    have hx6l := hx6.len
    rw [List.length_map, best_len] at hx6l
    have hcl : cntG t L 0 (S.drop 1) (1 + d2 - 1) ≤ 300 := by
      rw [← best_len]
      have h1 : (best S t L (1 + d2)).length ≤ (tables (S.drop 1) (1 + d2 - 1)).length := by
        unfold best tables goods
        rw [List.length_map, List.length_map]
        exact List.length_filter_le _ _
      omega
    have s810 := s89.trans s10
    have hA10 := s810 _ _ hA
    refine ⟨_, rfl, _, rfl, _, rfl, _, _, _, rfl, right_starts hA10 hg ht (by omega) hm2 ⟨t, 1 + d2, rfl, rfl, ht, by omega, hm2, fun H11 L' s11 hL' => ?_⟩⟩
    rw [only hL hL']
    refine ⟨_, rfl, rfl, _, rfl, ?_⟩
    rw [decide_eq_true rfl]
    refine iteF ?_
    have hA11 := s11 _ _ hA10
    refine ⟨_, rfl, _, rfl, _, rfl, rfl, _, _, _, rfl, right_starts hA11 hg ht (by omega) hm2 ⟨t, 1 + d2, rfl, rfl, ht, by omega, hm2, fun H12 L' s12 hL' => ?_⟩⟩
    rw [only hL hL']
    have s1012 := s11.trans s12
    refine ⟨_, rfl, D2, _, rfl, .inl (.inl (.inl (s1012 _ _ h6))), rfl, _, rfl, ?_⟩
    rw [hx6l, decide_eq_true rfl]
    refine iteF ?_
    have hA12 := s12 _ _ hA11
    refine ⟨_, rfl, _, rfl, _, rfl, _, _, _, rfl, right_starts hA12 hg ht (by omega) hm2 ⟨t, 1 + d2, rfl, rfl, ht, by omega, hm2, fun L' hL' H13 p7 tab htab s13 np7 hp7 => ?_⟩⟩
    rw [only hL hL'] at htab
    have hmem : ∀ {tb : List Int} {j : Nat}, (goods t L 0 (S.drop 1) (1 + d2 - 1))[j]? = some tb → (0 :: tb) ∈ best S t L (1 + d2) := fun h => List.mem_map.mpr ⟨_, List.mem_of_getElem? h, rfl⟩
    have any1 : ∀ {x : List Int}, x ∈ best S t L (1 + d2) → ((best S t L (1 + d2)).map rowD).any (fun z => PyData.eqv z (rowD x)) = true := fun {x} h => List.any_eq_true.mpr ⟨rowD x, List.mem_map.mpr ⟨x, h, rfl⟩, by rw [rowD_eqv]; exact decide_eq_true rfl⟩
    have shB := rows_shaped (best S t L (1 + d2))
    have shr : ∀ x : List Int, SeqAt.shaped (rowD x) = true := fun x => shaped_ints x
    have d12 := (d10.same s11).same s12
    have d13 := d12.same s13
    have hA13 := s13 _ _ hA12
    have h613 := s13 _ _ (s1012 _ _ h6)
    refine ⟨_, rfl, _, rfl, rowD (0 :: tab), _, (Dt.ints hp7).dp, d13.dp, shr _, shB, _, rfl, ?_⟩
    rw [any1 (hmem htab)]
    refine iteF ?_
    refine ⟨_, rfl, D2, _, rfl, .inl (.inl (.inl h613)), _, rfl, by rw [hx6l]; omega, by rw [hx6l]; omega, fun D3 nD3 => ?_⟩
    rw [hx6l, Int.toNat_natCast]
    refine lc_dR (lo := 0) (n := cntG t L 0 (S.drop 1) (1 + d2 - 1)) (S := []) Has.nil ((best S t L (1 + d2)).map fun r => some (rowD r)) nD3 (by rw [List.length_map, best_len]) (small4 (by omega)) (fun x => rfl) ?_ ?_
    · intro j o H' hj ho s' hH Qt qt
      rw [List.getElem?_map] at ho
      obtain ⟨x, hx, rfl⟩ := Option.map_eq_some_iff.mp ho
      unfold best at hx
      rw [List.getElem?_map] at hx
      obtain ⟨tb, htb, rfl⟩ := Option.map_eq_some_iff.mp hx
      rw [Int.zero_add]
      refine ⟨_, rfl, _, rfl, _, rfl, _, rfl, _, _, _, _, rfl, right_starts (s' _ _ hA13) hg ht (by omega) hm2 ⟨t, 1 + d2, rfl, rfl, ht, by omega, hm2, fun L' hL' => .inl ⟨j, tb, by rw [Int.zero_add], by rw [only hL hL']; exact htb, fun H'' p s'' np hp => ?_⟩⟩⟩
      exact qt _ _ s'' (Dt.ints (by rw [rs_out (hH.out np)]; exact hp))
    intro H14 s14 _ d14
    rw [rs_nil, sel_map] at d14
    refine ⟨_, rfl, d_ne d14 (d13.same s14) shB shB ⟨_, rfl, ?_⟩⟩
    rw [rowsEq', decide_eq_true rfl]
    refine iteF ?_
    have hp714 := s14 _ _ hp7
    have htl : tab.length ≤ 9 := by
      have h := List.mem_of_getElem? htab
      unfold goods at h
      have := (tabs_mem.mp (List.mem_filter.mp h).1).2
      omega
    refine ⟨_, rfl, .inl ⟨rfl, _, .inl (.inl hp714)⟩, ?_⟩
    refine ⟨p7, _, _, rfl, rfl, hp714, by rw [List.length_map, List.length_cons, sizeLine_eq]; omega, ?_⟩
    have sB : Same H12 (upd H14 p7 (.lst ((0 :: tab).map V.int ++ [V.int 0]))) := same_over np7 (s13.trans s14)
    generalize upd H14 p7 (.lst ((0 :: tab).map V.int ++ [V.int 0])) = HB at sB ⊢
    have hAB := sB _ _ hA12
    have dB := d12.same sB
    refine ⟨_, rfl, _, rfl, _, rfl, rfl, _, _, _, rfl, right_starts hAB hg ht (by omega) hm2 ⟨t, 1 + d2, rfl, rfl, ht, by omega, hm2, fun L' hL' H15 p8 tab2 htab2 s15 np8 hp8 => ?_⟩⟩
    rw [only hL hL'] at htab2
    have d15 := dB.same s15
    refine ⟨_, rfl, rowD (0 :: tab2), _, (Dt.ints hp8).dp, d15.dp, shr _, shB, _, rfl, ?_⟩
    rw [any1 (hmem htab2)]
    refine iteF ?_
    have hA15 := s15 _ _ hAB
    refine ⟨_, rfl, _, rfl, _, rfl, rfl, _, _, _, _, rfl, right_starts hA15 hg ht (by omega) hm2 ⟨t, 1 + d2, rfl, rfl, ht, by omega, hm2, fun L' hL' => .inl ⟨0, tab2, rfl, by rw [only hL hL']; exact htab2, fun H16 p9 s16 np9 hp9 => ?_⟩⟩⟩
    have sC := ((s1012.trans sB).trans s15).trans s16
    obtain ⟨y0, hy0⟩ : ∃ y0, xs6[0]? = some y0 := ⟨xs6[0]'(by have := goods_some hL; omega), List.getElem?_eq_getElem _⟩
    obtain ⟨dd, hdd, hyd⟩ := hx6.got hy0
    have edd : dd = rowD (0 :: tab2) := by
      unfold best at hdd
      rw [List.getElem?_map, List.getElem?_map, htab2] at hdd
      exact (Option.some.inj hdd).symm
    subst edd
    refine ⟨_, rfl, D2, xs6, 0, y0, rfl, rfl, .inl (.inl (sC _ _ h6)), atI_nat (j := 0) hy0, d_ne (Dt.ints hp9) (hyd.same sC) (shr _) (shr _) ⟨_, rfl, ?_⟩⟩
    rw [rowD_eqv, decide_eq_true rfl]
    refine iteF ?_
    have sD := s810.trans sC
    refine ⟨_, rfl, _, rfl, _, rfl, _, rfl, _, rfl, g, pS, S, t, 1 + d2, L, rfl, gA.same sD, sD _ _ hA, sg, hg, hl9, ht, by omega, hm2, hL, fun H17 b17 g17 => ?_⟩
    refine ⟨_, rfl, iteF ?_⟩
    refine ⟨_, rfl, _, rfl, ne_lst (ns := S) (.inl (.inl (b17 _ _ sg (sD _ _ hA)))) (.inl (.inl (b17 _ _ hg' (sD _ _ hH)))) ⟨_, rfl, iteF ?_⟩⟩
    exact ⟨_, _, _, _, _, _, _, _, _, _, rfl, g17⟩
  · rintro σ HA ⟨v2, v3, v4, v5, v6, v7, v8, v9, v10, v11, rfl, gA⟩
    refine ⟨(show 1 ≤ sizeLine by decide), fun c nc => ?_⟩
    obtain ⟨H2, e2, s2, hc⟩ := fresh (.lst (([0] : List Int).map V.int)) nc
    rw [show upd HA c (.lst [V.int 0]) = H2 from e2]
    refine ⟨_, _, _, rfl, right_starts (S := [0]) (t := 7) (m := 1) hc ⟨by decide, by decide, _, rfl⟩ (by decide) (by decide) (by decide) ⟨7, 1, rfl, rfl, by decide, by decide, by decide, fun H3 L s3 hL => ?_⟩⟩
    rw [show bst 7 0 (([0] : List Int).drop 1) (1 - 1) = some 7 by decide] at hL
    cases hL
    refine ⟨rfl, _, rfl, ?_⟩
    rw [decide_eq_true rfl]
    refine iteT ?_
    refine ⟨(show 4 ≤ sizeLine by decide), fun c2 nc2 => ?_⟩
    obtain ⟨H4, e4, s4, hc2⟩ := fresh (.lst (([0, 3, 4, 9] : List Int).map V.int)) nc2
    rw [show upd H3 c2 (.lst [V.int 0, V.int 3, V.int 4, V.int 9]) = H4 from e4]
    refine ⟨_, _, _, rfl, right_starts (S := [0, 3, 4, 9]) (t := 10) (m := 2) hc2 ⟨by decide, by decide, _, rfl⟩ (by decide) (by decide) (by decide) ⟨10, 2, rfl, rfl, by decide, by decide, by decide, fun L hL H5 p tab htab s5 np hp => ?_⟩⟩
    rw [show bst 10 0 (([0, 3, 4, 9] : List Int).drop 1) (2 - 1) = some 6 by decide] at hL
    cases hL
    rw [show goods 10 6 0 (([0, 3, 4, 9] : List Int).drop 1) (2 - 1) = [[4]] by decide] at htab
    cases htab
    refine ⟨(show 2 ≤ sizeLine by decide), fun c3 nc3 => ?_⟩
    refine eq_lst (ns := [0, 4]) (.inl (.inl (same_upd nc3 _ _ hp))) (.inl (.inl upd_same)) ⟨_, rfl, iteT ?_⟩
    exact ⟨rfl, fun H' _ => q _⟩
end
end My

open PySem PySem.W PySem.Calls PyProof.Rows
set_option maxRecDepth 100000 in
set_option maxHeartbeats 0 in
theorem PySem.Challenge.cw_wholesound_k96_whole_tables_of_starts_holds : PySem.Challenge.rw_wholesound_k96_whole_tables_of_starts.Holds := by
  w_on; o_law
  refine HandSHeadRun.head_any (r := OpenLaw.row PySem.Challenge.rw_wholesound_k96_whole_tables_of_starts) (q := view (OpenLaw.row PySem.Challenge.rw_wholesound_k96_whole_tables_of_starts).prog [34]) (H := My.hk) (ob := My.ob) (M := 8000) (loose := My.loose) (d := HandSHeadRun.topDef (OpenLaw.row PySem.Challenge.rw_wholesound_k96_whole_tables_of_starts).prog 34) (kwd := []) My.ob_eq
    (by kernel_rfl) (fun s => by kernel_rfl) My.run (by kernel_rfl) (by kernel_rfl) (by kernel_rfl) (by rfl) (by first | assumption | decide +kernel) (by decide +kernel) ⟨rfl, rfl, rfl, rfl, rfl, by decide +kernel⟩ ?hw ?hc
  case hw => w_witness2
  case hc =>
    refine My.end_g (l := PySem.Challenge.rw_wholesound_k96_whole_tables_of_starts) (n := 63) (k := 10) (x := "_law_script") rfl (by decide) (by kernel_rfl) ⟨rfl, by decide, by decide⟩ ?F
    intro w mg fa h Y G hmg0
    obtain ⟨K, KX, c⟩ := Y
    have hmg : mg ("law" : PySem.Str) = some (.ref fa) := by
      have e : (HandSHeadRun.topDef (OpenLaw.row PySem.Challenge.rw_wholesound_k96_whole_tables_of_starts).prog 34).name = ("law" : PySem.Str) := by kernel_rfl
      rw [← e]
      exact hmg0
    have T : My.Top K mg := My.top_mk KX G c
    have e := hmg.symm.trans T.g_law
    cases e
    have b := L2.FunD.bindsA (ps := ["_law_script"]) T.F_law fun _ _ _ _ _ _ us hl => match us, hl with | [_], _ => rfl
    exact ⟨K, T.fd_law, My.sp_law K, KX, fun s v => b s [v] rfl, fun H a ns hl hS => ⟨a, ns, rfl, hS, hl, fun _ => rfl⟩, fun base _ _ => My.G_law (pf := ⟨by kernel_rfl, by kernel_rfl⟩) T⟩


