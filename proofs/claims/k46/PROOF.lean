import PyProof.Rows.All
import Wide.All
import OpenK.AllK
import Wide.FinOn
import KE.KStateDown
import Lean
import HandS.ForMost
import HandS.Exc
import HandS.Flow
import HandS.DictComp
import HandS.Style
import HandS.Wide
import HandS.WideBits
import HandS.IsInst
import HandS.Codes
import HandS.Walk
import HandS.Words
import HandS.WordsExc
import HandS.Defaults
import HandS.Head0
import HandS.Head1
import HandS.Head2
import HandS.HeadEnd
import HandS.HeadHook1
import HandS.HeadHook2
import HandS.SortInts
import PyProof.Rows.SortShellAny
import PyProof.InstNe
import KE.DataMinMax
import KE.SortData
import KE.IntBitsLaws
import KE.BitLaws
import HandS.Deep
import HandS.SetKeys
import PyProof.Rows.StrMul
import HandS.TupLe
import HandS.Property
import HandS.Conv
import HandS.NoneIn
import HandS.SetFor
import HandS.Strs
import HandS.Sort
import HandS.StrMore
import HandS.ExcInit
import HandS.ExcSuper
import HandS.Nested
import KE.KExcSuper
import HandS.ExcField
import HandS.TryMany
import HandS.ExcIs
import HandS.TryOnly
import HandS.CallSlots
import KE.KDictDisplayH
import PyProof.StrLawsFirst
import KE.GoesZip
import KE.GoesMore
import HandS.Zip
import PyProof.CallType
import PyProof.ZipIter
import PyProof.TupleIter
import PyProof.Rows.CallKwBuiltin
import HandS.Star
import HandS.TupLen
import KE.KDictCopyH
import HandS.WordsDict
import PySem.Challenge.RW_wholesound_k46_whole_least_cuts
set_option Elab.async false
set_option linter.all false
set_option maxRecDepth 100000
set_option maxHeartbeats 4000000
set_option exponentiation.threshold 100000
namespace Pre
open PySem PySem.Spec PyProof.Rows L2
/-! ### heaps -/
theorem same_upd {H : Hp} {p : Addr} {o : HO} (h : H p = none) : Same H (upd H p o) := fun b x e => by
  rw [upd_ne (ne_of_none e h)]
  exact e
/-- a fresh thing that is then changed is no change of what was -/
theorem same_over {H H' : Hp} {p : Addr} {o : HO} (n : H p = none) (s : Same H H') : Same H (upd H' p o) := fun b x e => by
  rw [upd_ne (ne_of_none e n)]
  exact s b x e
theorem Same.tup {K : PySem.W.Frag} {H H' : Hp} {a : Addr} {xs : List V} (e : Same H H') (h : SqT K H a xs) : SqT K H' a xs := by
  rcases h with (h | ⟨o, h⟩) | h
  · exact .inl (.inl (e _ _ h))
  · exact .inl (.inr ⟨o, e _ _ h⟩)
  · exact .inr h
mutual
theorem dp_same {K : PySem.W.Frag} {H H' : Hp} (s : Same H H') : ∀ (d : PyData) (v : V), Dp K H v d → Dp K H' v d
  | .none, _, h => by cases h; exact .non
  | .bool _, _, h => by cases h; exact .bl _
  | .int _, _, h => by cases h; exact .int _
  | .str _, _, h => by cases h; exact .str _
  | .list ds, _, h => by cases h with | lst a b => exact .lst (s.seq a) (dps_same s ds _ b)
  | .tuple ds, _, h => by cases h with | tup a b => exact .tup (Same.tup s a) (dps_same s ds _ b)
  | .dict _, _, h => nomatch h
theorem dps_same {K : PySem.W.Frag} {H H' : Hp} (s : Same H H') : ∀ (ds : List PyData) (vs : List V), DpAll K H vs ds → DpAll K H' vs ds
  | [], _, h => by cases h; exact .nil
  | d :: ds, _, h => by cases h with | cons a b => exact .cons (dp_same s d _ a) (dps_same s ds _ b)
end
theorem dp_ints {K : PySem.W.Frag} {H : Hp} : ∀ ns : List Int, DpAll K H (ns.map V.int) (ns.map PyData.int)
  | [] => .nil
  | n :: r => .cons (.int n) (dp_ints r)
theorem eqv_ints : ∀ ns ms : List Int, PyData.eqvAll (ns.map PyData.int) (ms.map PyData.int) = decide (ns = ms)
  | [], [] => rfl
  | [], _ :: _ => rfl
  | _ :: _, [] => rfl
  | n :: r, m :: q => by
    show (PyData.eqv (.int n) (.int m) && PyData.eqvAll (r.map PyData.int) (q.map PyData.int)) = decide (n :: r = m :: q)
    rw [eqv_ints r q]
    show ((n == m) && decide (r = q)) = decide (n :: r = m :: q)
    by_cases h : n = m
    · subst h; simp
    · simp [h]
theorem lay_ints : ∀ ns : List Int, PyData.canLayAll0 (ns.map PyData.int) = true
  | [] => rfl
  | n :: r => by
    show (PyData.canLay0 (.int n) && PyData.canLayAll0 (r.map PyData.int)) = true
    rw [lay_ints r]
    rfl
theorem depth_ints : ∀ ns : List Int, PyData.depthAll (ns.map PyData.int) = 0
  | [] => by simp [PyData.depthAll]
  | n :: r => by
    show PyData.depthAll (.int n :: r.map PyData.int) = 0
    rw [PyData.depthAll, depth_ints r]
    simp [PyData.depth]
theorem shaped_ints (ns : List Int) : SeqAt.shaped (.list (ns.map PyData.int)) = true := by
  unfold SeqAt.shaped
  rw [PyData.canLay0, lay_ints, PyData.depth, depth_ints]
  rfl
theorem shaped_tup (ns : List Int) : SeqAt.shaped (.tuple (ns.map PyData.int)) = true := by
  unfold SeqAt.shaped
  rw [PyData.canLay0, lay_ints, PyData.depth, depth_ints]
  rfl
/-! ### comparisons of lists and tuples of whole numbers that are told alike -/
theorem ne_tup {K : PySem.W.Frag} {H : Hp} {a b : Addr} {ns : List Int} {Q : V → Hp → Prop} (ha : SqT K H a (ns.map V.int)) (hb : SqT K H b (ns.map V.int)) (q : Q (.bl false) H) : rNeD K (.ref a) (.ref b) H Q := by
  refine ⟨.tuple (ns.map PyData.int), .tuple (ns.map PyData.int), .tup ha (dp_ints ns), .tup hb (dp_ints ns), shaped_tup ns, shaped_tup ns, ?_⟩
  rw [PyData.eqv, eqv_ints, decide_eq_true rfl]
  exact q
theorem eq_tup {K : PySem.W.Frag} {H : Hp} {a b : Addr} {ns : List Int} {Q : V → Hp → Prop} (ha : SqT K H a (ns.map V.int)) (hb : SqT K H b (ns.map V.int)) (q : Q (.bl true) H) : rEqD K (.ref a) (.ref b) H Q := by
  refine ⟨.tuple (ns.map PyData.int), .tuple (ns.map PyData.int), .tup ha (dp_ints ns), .tup hb (dp_ints ns), shaped_tup ns, shaped_tup ns, ?_⟩
  rw [PyData.eqv, eqv_ints, decide_eq_true rfl]
  exact q
/-- lists of whole numbers, compared -/
theorem eqD_lst {K : PySem.W.Frag} {H : Hp} {a b : Addr} {ns ms : List Int} {Q : V → Hp → Prop} (ha : SqL K H a (ns.map V.int)) (hb : SqL K H b (ms.map V.int)) (q : Q (.bl (decide (ns = ms))) H) : rEqD K (.ref a) (.ref b) H Q := by
  refine ⟨.list (ns.map PyData.int), .list (ms.map PyData.int), .lst ha (dp_ints ns), .lst hb (dp_ints ms), shaped_ints ns, shaped_ints ms, ?_⟩
  rw [PyData.eqv, eqv_ints]
  exact q
theorem neD_lst {K : PySem.W.Frag} {H : Hp} {a b : Addr} {ns ms : List Int} {Q : V → Hp → Prop} (ha : SqL K H a (ns.map V.int)) (hb : SqL K H b (ms.map V.int)) (q : Q (.bl (!decide (ns = ms))) H) : rNeD K (.ref a) (.ref b) H Q := by
  refine ⟨.list (ns.map PyData.int), .list (ms.map PyData.int), .lst ha (dp_ints ns), .lst hb (dp_ints ms), shaped_ints ns, shaped_ints ms, ?_⟩
  rw [PyData.eqv, eqv_ints]
  exact q
theorem ne_lst {K : PySem.W.Frag} {H : Hp} {a b : Addr} {ns : List Int} {Q : V → Hp → Prop} (ha : SqL K H a (ns.map V.int)) (hb : SqL K H b (ns.map V.int)) (q : Q (.bl false) H) : rNeD K (.ref a) (.ref b) H Q :=
  neD_lst ha hb (by rw [decide_eq_true rfl]; exact q)
theorem eq_lst {K : PySem.W.Frag} {H : Hp} {a b : Addr} {ns : List Int} {Q : V → Hp → Prop} (ha : SqL K H a (ns.map V.int)) (hb : SqL K H b (ns.map V.int)) (q : Q (.bl true) H) : rEqD K (.ref a) (.ref b) H Q :=
  eqD_lst ha hb (by rw [decide_eq_true rfl]; exact q)
/-! ### powers -/
def CPowW (i j : Int) : Prop := 0 ≤ j ∧ (Builtin.Int.intBits i : Int) * j ≤ 2 ^ 27
theorem op_powW {X : Cx} : OpR X (binaryOp .Pow) (rI CPowW fun i j => .int (i ^ j.toNat)) := opI fun _ _ _ _ _ _ _ hc q => pow_int hc.1 hc.2 q
/-! ### comprehensions whose parts leave what is tracked as it is: sel tells of each item what comes of it -/
theorem take_fm {α : Type} {l : List (Option α)} {i : Nat} {o : Option α} (h : l[i]? = some o) : (l.take (i + 1)).filterMap id = (l.take i).filterMap id ++ o.toList := by
  rw [List.take_add_one, h, List.filterMap_append]
  cases o <;> rfl
theorem fm_len {α : Type} (l : List (Option α)) (i : Nat) : ((l.take i).filterMap id).length ≤ l.length :=
  Nat.le_trans (List.length_filterMap_le _ _) (by rw [List.length_take]; omega)
theorem lc_selL {K : PySem.W.Frag} {a : Addr} {xs : List V} {j : Nat} {tt : TT} {te : TE} {vs : List Nat} {σ : L2.St} {H1 : Hp} {D : Addr} {Qd : Hp → Prop} (sel : List (Option V)) (nD : H1 D = none) (hS : SqL K H1 a xs) (hlen : sel.length = xs.length) (hz : xs.length < sizeLine)
    (hw : ∀ x, wipe ((wipe σ vs).set j (some x)) vs = wipe σ vs)
    (hs : ∀ (i : Nat) (x : V) (o : Option V) (H' : Hp), xs[i]? = some x → sel[i]? = some o → Same H1 H' → ∀ Qt : Option V → Hp → Prop, (∀ H'', Same H' H'' → Qt o H'') →
      tt ((wipe σ vs).set j (some x)) H' fun b H3 => if b = true then te ((wipe σ vs).set j (some x)) H3 fun y H4 => Qt (some y) H4 else Qt none H3)
    (hd : ∀ H', Same H1 H' → H' D = some (.lst (sel.filterMap id)) → Qd H') :
    ∃ W : Nat → Nat → Hp → Prop, (∃ m, W 0 m (upd H1 D (.lst []))) ∧ ∀ i m H, W i m H →
      ((Itl K a).stop i H ∧ Qd H) ∨ ((Itl K a).go i H ∧ ∃ Nx : Hp → Prop, (∀ H', Nx H' → ∃ m', m' < m ∧ W (i + 1) m' H') ∧ ∀ x H', (Itl K a).yld i H x H' → gName j x (wipe σ vs) H' fun σ2 H2 => wipe σ2 vs = wipe σ vs ∧ tt σ2 H2 fun b H3 =>
        if b = true then te σ2 H3 fun y H4 => ∃ acc, H4 D = some (.lst acc) ∧ acc.length < sizeLine ∧ Nx (upd H4 D (.lst (acc ++ [y]))) else Nx H3) := by
  refine lc_list (K := K) (a := a) (xs := xs) (fun i H => Same H1 H ∧ H D = some (.lst ((sel.take i).filterMap id))) ⟨same_upd nD, upd_same⟩ (fun i H _ p => p.1.seq hS) ?_ ?_
  · rintro i x H hx ⟨s, hD⟩
    refine ⟨hw x, ?_⟩
    have hi : i < sel.length := by rw [hlen]; exact (List.getElem?_eq_some_iff.mp hx).1
    have ho : sel[i]? = some sel[i] := List.getElem?_eq_getElem hi
    have hl : ((sel.take i).filterMap id).length < sizeLine := Nat.lt_of_le_of_lt (fm_len sel i) (by omega)
    refine hs i x sel[i] H hx ho s (fun o H4 => match o with
      | some y => ∃ acc, H4 D = some (.lst acc) ∧ acc.length < sizeLine ∧ (Same H1 (upd H4 D (.lst (acc ++ [y]))) ∧ (upd H4 D (.lst (acc ++ [y]))) D = some (.lst ((sel.take (i + 1)).filterMap id)))
      | none => Same H1 H4 ∧ H4 D = some (.lst ((sel.take (i + 1)).filterMap id))) fun H4 s4 => ?_
    generalize sel[i] = o at ho ⊢
    cases o with
    | some y =>
      refine ⟨_, s4 _ _ hD, hl, same_over nD (s.trans s4), ?_⟩
      rw [upd_same, take_fm ho]
      rfl
    | none =>
      refine ⟨s.trans s4, ?_⟩
      rw [take_fm ho, s4 _ _ hD]
      simp
  · rintro H ⟨s, hD⟩
    refine hd H s ?_
    rw [hD, ← hlen, List.take_length]
theorem lc_selR {lo : Int} {n : Nat} {j : Nat} {tt : TT} {te : TE} {vs : List Nat} {σ : L2.St} {H1 : Hp} {D : Addr} {Qd : Hp → Prop} (sel : List (Option V)) (nD : H1 D = none) (hlen : sel.length = n) (hz : n < sizeLine)
    (hw : ∀ x, wipe ((wipe σ vs).set j (some x)) vs = wipe σ vs)
    (hs : ∀ (i : Nat) (o : Option V) (H' : Hp), i < n → sel[i]? = some o → Same H1 H' → ∀ Qt : Option V → Hp → Prop, (∀ H'', Same H' H'' → Qt o H'') →
      tt ((wipe σ vs).set j (some (.int (lo + (i : Int))))) H' fun b H3 => if b = true then te ((wipe σ vs).set j (some (.int (lo + (i : Int))))) H3 fun y H4 => Qt (some y) H4 else Qt none H3)
    (hd : ∀ H', Same H1 H' → H' D = some (.lst (sel.filterMap id)) → Qd H') :
    ∃ W : Nat → Nat → Hp → Prop, (∃ m, W 0 m (upd H1 D (.lst []))) ∧ ∀ i m H, W i m H →
      ((Itr lo n).stop i H ∧ Qd H) ∨ ((Itr lo n).go i H ∧ ∃ Nx : Hp → Prop, (∀ H', Nx H' → ∃ m', m' < m ∧ W (i + 1) m' H') ∧ ∀ x H', (Itr lo n).yld i H x H' → gName j x (wipe σ vs) H' fun σ2 H2 => wipe σ2 vs = wipe σ vs ∧ tt σ2 H2 fun b H3 =>
        if b = true then te σ2 H3 fun y H4 => ∃ acc, H4 D = some (.lst acc) ∧ acc.length < sizeLine ∧ Nx (upd H4 D (.lst (acc ++ [y]))) else Nx H3) := by
  refine lc_range (lo := lo) (n := n) (fun i H => Same H1 H ∧ H D = some (.lst ((sel.take i).filterMap id))) ⟨same_upd nD, upd_same⟩ ?_ ?_
  · rintro i H hi' ⟨s, hD⟩
    refine ⟨hw _, ?_⟩
    have hi : i < sel.length := by rw [hlen]; exact hi'
    have ho : sel[i]? = some sel[i] := List.getElem?_eq_getElem hi
    have hl : ((sel.take i).filterMap id).length < sizeLine := Nat.lt_of_le_of_lt (fm_len sel i) (by omega)
    refine hs i sel[i] H hi' ho s (fun o H4 => match o with
      | some y => ∃ acc, H4 D = some (.lst acc) ∧ acc.length < sizeLine ∧ (Same H1 (upd H4 D (.lst (acc ++ [y]))) ∧ (upd H4 D (.lst (acc ++ [y]))) D = some (.lst ((sel.take (i + 1)).filterMap id)))
      | none => Same H1 H4 ∧ H4 D = some (.lst ((sel.take (i + 1)).filterMap id))) fun H4 s4 => ?_
    generalize sel[i] = o at ho ⊢
    cases o with
    | some y =>
      refine ⟨_, s4 _ _ hD, hl, same_over nD (s.trans s4), ?_⟩
      rw [upd_same, take_fm ho]
      rfl
    | none =>
      refine ⟨s.trans s4, ?_⟩
      rw [take_fm ho, s4 _ _ hD]
      simp
  · rintro H ⟨s, hD⟩
    refine hd H s ?_
    rw [hD, ← hlen, List.take_length]
theorem fm_some {α : Type} (ys : List α) : (ys.map some).filterMap id = ys := by
  rw [List.filterMap_map]
  show List.filterMap (fun y => some y) ys = ys
  exact List.filterMap_some
/-- no test: ys tells what comes of each item -/
theorem lc_mapL {K : PySem.W.Frag} {a : Addr} {xs : List V} {j : Nat} {te : TE} {vs : List Nat} {σ : L2.St} {H1 : Hp} {D : Addr} {Qd : Hp → Prop} (ys : List V) (nD : H1 D = none) (hS : SqL K H1 a xs) (hlen : ys.length = xs.length) (hz : xs.length < sizeLine)
    (hw : ∀ x, wipe ((wipe σ vs).set j (some x)) vs = wipe σ vs)
    (hs : ∀ (i : Nat) (x y : V) (H' : Hp), xs[i]? = some x → ys[i]? = some y → Same H1 H' → ∀ Qt : V → Hp → Prop, (∀ H'', Same H' H'' → Qt y H'') → te ((wipe σ vs).set j (some x)) H' Qt)
    (hd : ∀ H', Same H1 H' → H' D = some (.lst ys) → Qd H') :
    ∃ W : Nat → Nat → Hp → Prop, (∃ m, W 0 m (upd H1 D (.lst []))) ∧ ∀ i m H, W i m H →
      ((Itl K a).stop i H ∧ Qd H) ∨ ((Itl K a).go i H ∧ ∃ Nx : Hp → Prop, (∀ H', Nx H' → ∃ m', m' < m ∧ W (i + 1) m' H') ∧ ∀ x H', (Itl K a).yld i H x H' → gName j x (wipe σ vs) H' fun σ2 H2 => wipe σ2 vs = wipe σ vs ∧ tYes σ2 H2 fun b H3 =>
        if b = true then te σ2 H3 fun y H4 => ∃ acc, H4 D = some (.lst acc) ∧ acc.length < sizeLine ∧ Nx (upd H4 D (.lst (acc ++ [y]))) else Nx H3) := by
  refine lc_selL (K := K) (a := a) (xs := xs) (tt := tYes) (ys.map some) nD hS (by rw [List.length_map]; exact hlen) hz hw ?_ ?_
  · intro i x o H' hx ho s Qt qt
    rw [List.getElem?_map] at ho
    obtain ⟨y, hy, rfl⟩ := Option.map_eq_some_iff.mp ho
    show if true = true then te ((wipe σ vs).set j (some x)) H' (fun y H4 => Qt (some y) H4) else Qt none H'
    exact iteT (hs i x y H' hx hy s (fun y H4 => Qt (some y) H4) qt)
  · intro H' s hD
    rw [fm_some] at hD
    exact hd H' s hD
theorem lc_mapR {lo : Int} {n : Nat} {j : Nat} {te : TE} {vs : List Nat} {σ : L2.St} {H1 : Hp} {D : Addr} {Qd : Hp → Prop} (ys : List V) (nD : H1 D = none) (hlen : ys.length = n) (hz : n < sizeLine)
    (hw : ∀ x, wipe ((wipe σ vs).set j (some x)) vs = wipe σ vs)
    (hs : ∀ (i : Nat) (y : V) (H' : Hp), i < n → ys[i]? = some y → Same H1 H' → ∀ Qt : V → Hp → Prop, (∀ H'', Same H' H'' → Qt y H'') → te ((wipe σ vs).set j (some (.int (lo + (i : Int))))) H' Qt)
    (hd : ∀ H', Same H1 H' → H' D = some (.lst ys) → Qd H') :
    ∃ W : Nat → Nat → Hp → Prop, (∃ m, W 0 m (upd H1 D (.lst []))) ∧ ∀ i m H, W i m H →
      ((Itr lo n).stop i H ∧ Qd H) ∨ ((Itr lo n).go i H ∧ ∃ Nx : Hp → Prop, (∀ H', Nx H' → ∃ m', m' < m ∧ W (i + 1) m' H') ∧ ∀ x H', (Itr lo n).yld i H x H' → gName j x (wipe σ vs) H' fun σ2 H2 => wipe σ2 vs = wipe σ vs ∧ tYes σ2 H2 fun b H3 =>
        if b = true then te σ2 H3 fun y H4 => ∃ acc, H4 D = some (.lst acc) ∧ acc.length < sizeLine ∧ Nx (upd H4 D (.lst (acc ++ [y]))) else Nx H3) := by
  refine lc_selR (lo := lo) (n := n) (tt := tYes) (ys.map some) nD (by rw [List.length_map]; exact hlen) hz hw ?_ ?_
  · intro i o H' hi ho s Qt qt
    rw [List.getElem?_map] at ho
    obtain ⟨y, hy, rfl⟩ := Option.map_eq_some_iff.mp ho
    show if true = true then te ((wipe σ vs).set j (some (.int (lo + (i : Int))))) H' (fun y H4 => Qt (some y) H4) else Qt none H'
    exact iteT (hs i y H' hi hy s (fun y H4 => Qt (some y) H4) qt)
  · intro H' s hD
    rw [fm_some] at hD
    exact hd H' s hD
/-- an item of a list of whole numbers -/
theorem int_at {ns : List Int} {i : Nat} {x : V} (h : (ns.map V.int)[i]? = some x) : ∃ n, ns[i]? = some n ∧ x = .int n := by
  rw [List.getElem?_map] at h
  obtain ⟨n, hn, e⟩ := Option.map_eq_some_iff.mp h
  exact ⟨n, hn, e.symm⟩
/-! ### rules with the written part named (within a comprehension Lean doesn't find it) -/
section
variable {X : Cx}
theorem k_len (K : PySem.W.Frag) (h : X.K = K) : CallR X (.builtin "len") (fun xs H Q => ∃ p ys, xs = [.ref p] ∧ (SqL K H p ys ∨ SqT K H p ys) ∧ Q (.int ys.length) H) := by subst h; exact call_len_seq
theorem k_sum (K : PySem.W.Frag) (h : X.K = K) (hc : X.calm = true) : CallR X (.builtin "sum") (rSum K) := by subst h; exact cr_sum hc
theorem k_max (K : PySem.W.Frag) (h : X.K = K) (hc : X.calm = true) : CallR X (.builtin "max") (rMax K) := by subst h; exact cr_max hc
theorem k_min (K : PySem.W.Frag) (h : X.K = K) (hc : X.calm = true) : CallR X (.builtin "min") (rMin K) := by subst h; exact cr_min hc
theorem k_isi (K : PySem.W.Frag) (h : X.K = K) : CallR X (.builtin "isinstance") (rIsi K) := by subst h; exact call_isi
theorem k_listOf (K : PySem.W.Frag) (h : X.K = K) : CallR X (.type "list") (fun xs H Q => ∃ p ys, xs = [.ref p] ∧ (SqL K H p ys ∨ SqT K H p ys) ∧ ∀ l, H l = none → Q (.ref l) (upd H l (.lst ys))) := by subst h; exact call_list_of
theorem k_tupleOf (K : PySem.W.Frag) (h : X.K = K) : CallR X (.type "tuple") (fun xs H Q => ∃ p ys, xs = [.ref p] ∧ ((SqL K H p ys ∧ ∀ l, H l = none → Q (.ref l) (upd H l (.tup ys))) ∨ (SqT K H p ys ∧ Q (.ref p) H))) := by subst h; exact call_tuple_of
theorem k_ixL (K : PySem.W.Frag) (h : X.K = K) : IxR X (rIxL K) := by subst h; exact ix_list
theorem k_ixT (K : PySem.W.Frag) (h : X.K = K) : IxR X (rIxT K) := by subst h; exact ix_tup
theorem k_slL (K : PySem.W.Frag) (h : X.K = K) : SlR X (rSlL K) := by subst h; exact sl_list
theorem k_slT (K : PySem.W.Frag) (h : X.K = K) : SlR X (rSlT K) := by subst h; exact sl_tup
theorem k_eqD (K : PySem.W.Frag) (h : X.K = K) (hu : X.A.units + 64 < cLine) : OpR X (compareOp .Eq) (rEqD K) := by subst h; exact op_eqD hu
theorem k_neD (K : PySem.W.Frag) (h : X.K = K) (hu : X.A.units + 64 < cLine) : OpR X (compareOp .NotEq) (rNeD K) := by subst h; exact op_neD hu
theorem k_in (K : PySem.W.Frag) (h : X.K = K) : OpR X (compareOp .In) (rIn K false) := by subst h; exact op_in_seq
theorem k_notIn (K : PySem.W.Frag) (h : X.K = K) : OpR X (compareOp .NotIn) (rIn K true) := by subst h; exact op_notIn_seq
theorem k_piL (K : PySem.W.Frag) (h : X.K = K) {tg l : Expr} {tl : TE} (hl : PE X l tl) : PI X tg l (iList K tl) := by subst h; exact pi_list hl
theorem k_piT (K : PySem.W.Frag) (h : X.K = K) {tg l : Expr} {tl : TE} (hl : PE X l tl) : PI X tg l (iTup K tl) := by subst h; exact pi_tup hl
theorem k_piE (K : PySem.W.Frag) (h : X.K = K) {e : Expr} {ta : TA} {p pos tpos : Pos} {elts : List Expr} {kk : Nat} (hg : Gl X "enumerate") (hm : X.mg "enumerate" = none) (ha : PA X [e] ta) (hs : starEach [e] X.env = [(false, eval e X.env)] := by rfl) : PI X (.Tuple elts kk tpos) (.Call (.Name "enumerate" p) [e] [] pos) (iEnum K ta) := by subst h; exact pi_enum hg hm ha hs
theorem k_pgT (K : PySem.W.Frag) (h : X.K = K) {es : List Expr} {k : Nat} {t : TGs} {n : Nat} {pos : Pos} (hc : X.calm = true) (hp : PGs X es t) (hn : (assignEach es X.env).length = n := by rfl) (hst : (assignEach es X.env).findIdx? (·.1) = none := by rfl) : PG X (.Tuple es k pos) (gTup K n t) := by subst h; exact pg_tup hc hp hn hst
theorem k_pgL (K : PySem.W.Frag) (h : X.K = K) {es : List Expr} {k : Nat} {t : TGs} {n : Nat} {pos : Pos} (hc : X.calm = true) (hp : PGs X es t) (hn : (assignEach es X.env).length = n := by rfl) (hst : (assignEach es X.env).findIdx? (·.1) = none := by rfl) : PG X (.Tuple es k pos) (gUnl K n t) := by subst h; exact pg_unl hc hp hn hst
theorem k_fld (K : PySem.W.Frag) (h : X.K = K) {e : Expr} {f : Str} {pos : Pos} {ta : TE} (he : PE X e ta) (hb : attributeBase e f X.env (eval e X.env) = eval e X.env) : PE X (.Attribute e f pos) (tFld K ta f) := by subst h; exact pe_fld he hb
theorem k_index (K : PySem.W.Frag) (h : X.K = K) : MtR X "list.index" (rIndex K) := by subst h; exact mt_index
end
/-! ### small things -/
theorem fresh {H : Hp} {p : Addr} (o : HO) (np : H p = none) : ∃ H', upd H p o = H' ∧ Same H H' ∧ H' p = some o := ⟨_, rfl, same_upd np, upd_same⟩
theorem cut_take (xs : List V) (k : Nat) : cutV xs none (some (k : Int)) = xs.take k := by
  unfold cutV
  rw [HT.sIx_nat, HT.sIx_none, List.drop_zero, Nat.sub_zero]
  rcases Nat.le_total k xs.length with h | h
  · rw [Nat.min_eq_left h]
  · rw [Nat.min_eq_right h, List.take_of_length_le h, List.take_length]
theorem cut_drop (xs : List V) (k : Nat) : cutV xs (some (k : Int)) none = xs.drop k := by
  unfold cutV
  rw [HT.sIx_nat, HT.sIx_none]
  rcases Nat.le_total k xs.length with h | h
  · rw [Nat.min_eq_left h, List.take_of_length_le (by rw [List.length_drop]; exact Nat.le_refl _)]
  · rw [Nat.min_eq_right h, List.drop_length, List.drop_of_length_le h, List.take_nil]
theorem rep_ints (k : Nat) (ks : List Int) : (List.replicate k (ks.map V.int)).flatten = ((List.replicate k ks).flatten).map V.int := by
  rw [List.map_flatten, List.map_replicate]
theorem rep_len {α : Type} (k : Nat) (ks : List α) : ((List.replicate k ks).flatten).length = k * ks.length := by
  induction k with
  | zero => simp
  | succ k ih => rw [List.replicate_succ, List.flatten_cons, List.length_append, ih, Nat.succ_mul]; omega
theorem rep_mem {α : Type} {k : Nat} {ks : List α} {x : α} (h : x ∈ (List.replicate k ks).flatten) : x ∈ ks := by
  obtain ⟨l, hl, hx⟩ := List.mem_flatten.mp h
  rw [(List.mem_replicate.mp hl).2] at hx
  exact hx
/-! ### comprehensions that make new things: R tells what is known of the i-th; D is no part of it -/
def Off (D : Addr) (H H' : Hp) : Prop := ∀ b o, b ≠ D → H b = some o → H' b = some o
def RelPv (R : Nat → V → Hp → Prop) (H1 : Hp) (D : Addr) (i : Nat) (H : Hp) : Prop := ∃ ys : List V, Same H1 H ∧ H D = some (.lst ys) ∧ ys.length = i ∧ ∀ (k : Nat) (y : V), ys[k]? = some y → R k y H
theorem lc_relR {lo : Int} {n : Nat} {j : Nat} {te : TE} {vs : List Nat} {σ : L2.St} {H1 : Hp} {D : Addr} {Qd : Hp → Prop} (R : Nat → V → Hp → Prop) (nD : H1 D = none) (hz : n < sizeLine)
    (mono : ∀ i y H H', Off D H H' → R i y H → R i y H')
    (hw : ∀ x, wipe ((wipe σ vs).set j (some x)) vs = wipe σ vs)
    (hs : ∀ (i : Nat) (H' : Hp) (xs : List V), i < n → Same H1 H' → H' D = some (.lst xs) → ∀ Qt : V → Hp → Prop, (∀ y H'', Same H' H'' → R i y H'' → Qt y H'') → te ((wipe σ vs).set j (some (.int (lo + (i : Int))))) H' Qt)
    (hd : ∀ H' ys, Same H1 H' → H' D = some (.lst ys) → ys.length = n → (∀ (i : Nat) (y : V), ys[i]? = some y → R i y H') → Qd H') :
    ∃ W : Nat → Nat → Hp → Prop, (∃ m, W 0 m (upd H1 D (.lst []))) ∧ ∀ i m H, W i m H →
      ((Itr lo n).stop i H ∧ Qd H) ∨ ((Itr lo n).go i H ∧ ∃ Nx : Hp → Prop, (∀ H', Nx H' → ∃ m', m' < m ∧ W (i + 1) m' H') ∧ ∀ x H', (Itr lo n).yld i H x H' → gName j x (wipe σ vs) H' fun σ2 H2 => wipe σ2 vs = wipe σ vs ∧ tYes σ2 H2 fun b H3 =>
        if b = true then te σ2 H3 fun y H4 => ∃ acc, H4 D = some (.lst acc) ∧ acc.length < sizeLine ∧ Nx (upd H4 D (.lst (acc ++ [y]))) else Nx H3) := by
  refine lc_range (lo := lo) (n := n) (RelPv R H1 D) ⟨[], same_upd nD, upd_same, rfl, fun k y h => by simp at h⟩ ?_ ?_
  · rintro i H hi ⟨ys, s, hD, hl, hR⟩
    refine ⟨hw _, ?_⟩
    show if true = true then te ((wipe σ vs).set j (some (.int (lo + (i : Int))))) H (fun y H4 => ∃ acc, H4 D = some (.lst acc) ∧ acc.length < sizeLine ∧ RelPv R H1 D (i + 1) (upd H4 D (.lst (acc ++ [y])))) else RelPv R H1 D (i + 1) H
    refine iteT (hs i H ys hi s hD _ fun y H4 s4 r4 => ?_)
    refine ⟨ys, s4 _ _ hD, by omega, ys ++ [y], same_over nD (s.trans s4), upd_same, by rw [List.length_append, hl]; rfl, fun k z hz => ?_⟩
    have off : Off D H4 (upd H4 D (.lst (ys ++ [y]))) := fun b o nb h => by rw [upd_ne nb]; exact h
    by_cases hk : k < ys.length
    · rw [List.getElem?_append_left hk] at hz
      exact mono k z H _ (fun b o nb h => off b o nb (s4 b o h)) (hR k z hz)
    · rw [List.getElem?_append_right (by omega)] at hz
      have hk2 : k - ys.length = 0 := by
        have h2 := (List.getElem?_eq_some_iff.mp hz).1
        rw [List.length_singleton] at h2
        omega
      rw [hk2] at hz
      cases hz
      have ek : k = i := by omega
      rw [ek]
      exact mono i y H4 _ off r4
  · rintro H ⟨ys, s, hD, hl, hR⟩
    exact hd H ys s hD hl hR
/-! ### ways that are told by whole numbers -/
theorem iteDT {p A B : Prop} [Decidable p] (hp : p) (h : A) : if decide p = true then A else B := by rw [decide_eq_true hp]; exact iteT h
theorem iteDF {p A B : Prop} [Decidable p] (hp : ¬ p) (h : B) : if decide p = true then A else B := by rw [decide_eq_false hp]; exact iteF h
theorem iteNT {p A B : Prop} [Decidable p] (hp : ¬ p) (h : A) : if (!decide p) = true then A else B := by rw [decide_eq_false hp]; exact iteT h
theorem iteNF {p A B : Prop} [Decidable p] (hp : p) (h : B) : if (!decide p) = true then A else B := by rw [decide_eq_true hp]; exact iteF h
theorem iteET {a b : Int} {A B : Prop} [Decidable (V.int a = V.int b)] (hp : a = b) (h : A) : if decide (V.int a = V.int b) = true then A else B := iteDT (congrArg V.int hp) h
theorem iteEF {a b : Int} {A B : Prop} [Decidable (V.int a = V.int b)] (hp : ¬ a = b) (h : B) : if decide (V.int a = V.int b) = true then A else B := iteDF (fun z => hp (V.int.inj z)) h
theorem iteENT {a b : Int} {A B : Prop} [Decidable (V.int a = V.int b)] (hp : ¬ a = b) (h : A) : if (!decide (V.int a = V.int b)) = true then A else B := iteNT (fun z => hp (V.int.inj z)) h
theorem iteENF {a b : Int} {A B : Prop} [Decidable (V.int a = V.int b)] (hp : a = b) (h : B) : if (!decide (V.int a = V.int b)) = true then A else B := iteNF (congrArg V.int hp) h
theorem iteNtt {A B : Prop} (h : B) : if (!true) = true then A else B := h
theorem iteNff {A B : Prop} (h : A) : if (!false) = true then A else B := h
/-- 1 or 0 of a comparison -/
theorem int_if {p : Prop} [Decidable p] : (if decide p = true then (1 : Int) else 0) = if p then 1 else 0 := by by_cases h : p <;> simp [h]
end Pre

namespace My
open PySem PySem.Spec PyProof.Rows L2
theorem nil_binds {K : PySem.W.Frag} {fd : FuncData} {ps : List Str} (h : ∃ ds, Vals [] ds ∧ Binds K fd ps ds) : Binds K fd ps [] := by
  obtain ⟨ds, v, b⟩ := h
  cases v
  exact b
def top (i : Nat) : Stmt := PySem.Challenge.pw_wholesound_k46_whole_least_cuts.main.body.getD i (.Pass ⟨0, 0, 0, 0⟩)
abbrev s_is_whole : Stmt := top 5
abbrev N_is_whole : List Str := ["value"]
theorem sc_is_whole : FnScope N_is_whole ["value"] (defScope s_is_whole) := ⟨rfl, rfl, rfl, by decide +kernel, rfl, by decide +kernel, by decide +kernel⟩
abbrev s_is_between : Stmt := top 6
abbrev N_is_between : List Str := ["value", "low", "high"]
theorem sc_is_between : FnScope N_is_between ["value", "low", "high"] (defScope s_is_between) := ⟨rfl, rfl, rfl, by decide +kernel, rfl, by decide +kernel, by decide +kernel⟩
abbrev s_check_number : Stmt := top 7
abbrev N_check_number : List Str := ["number", "low", "high"]
theorem sc_check_number : FnScope N_check_number ["number", "low", "high"] (defScope s_check_number) := ⟨rfl, rfl, rfl, by decide +kernel, rfl, by decide +kernel, by decide +kernel⟩
abbrev s_check_folds : Stmt := top 10
abbrev N_check_folds : List Str := ["folds", "unit"]
theorem sc_check_folds : FnScope N_check_folds ["folds"] (defScope s_check_folds) := ⟨rfl, rfl, rfl, by decide +kernel, rfl, by decide +kernel, by decide +kernel⟩
abbrev s_raw_price : Stmt := top 11
abbrev N_raw_price : List Str := ["folds", "width", "unit"]
theorem sc_raw_price : FnScope N_raw_price ["folds", "width"] (defScope s_raw_price) := ⟨rfl, rfl, rfl, by decide +kernel, rfl, by decide +kernel, by decide +kernel⟩
abbrev s_high_bits : Stmt := top 12
abbrev N_high_bits : List Str := ["folds", "unit"]
theorem sc_high_bits : FnScope N_high_bits ["folds"] (defScope s_high_bits) := ⟨rfl, rfl, rfl, by decide +kernel, rfl, by decide +kernel, by decide +kernel⟩
abbrev s_told_least : Stmt := top 13
abbrev N_told_least : List Str := ["folds", "first", "last", "least", "unit"]
theorem sc_told_least : FnScope N_told_least ["folds"] (defScope s_told_least) := ⟨rfl, rfl, rfl, by decide +kernel, rfl, by decide +kernel, by decide +kernel⟩
abbrev s_check_cutting : Stmt := top 15
abbrev N_check_cutting : List Str := ["folds", "few", "cost", "bits"]
theorem sc_check_cutting : FnScope N_check_cutting ["folds", "few", "cost", "bits"] (defScope s_check_cutting) := ⟨rfl, rfl, rfl, by decide +kernel, rfl, by decide +kernel, by decide +kernel⟩
abbrev s_sums_ahead : Stmt := top 16
abbrev N_sums_ahead : List Str := ["numbers", "told", "one"]
theorem sc_sums_ahead : FnScope N_sums_ahead ["numbers"] (defScope s_sums_ahead) := ⟨rfl, rfl, rfl, by decide +kernel, rfl, by decide +kernel, by decide +kernel⟩
abbrev s_ways_of : Stmt := top 18
abbrev N_ways_of : List Str := ["folds", "bits", "told", "width"]
theorem sc_ways_of : FnScope N_ways_of ["folds", "bits"] (defScope s_ways_of) := ⟨rfl, rfl, rfl, by decide +kernel, rfl, by decide +kernel, by decide +kernel⟩
abbrev s_gone_along : Stmt := top 19
abbrev N_gone_along : List Str := ["folds", "few", "cost", "bits", "place", "totals", "lasts", "ways", "best", "way", "here"]
theorem sc_gone_along : FnScope N_gone_along ["folds", "few", "cost", "bits"] (defScope s_gone_along) := ⟨rfl, rfl, rfl, by decide +kernel, rfl, by decide +kernel, by decide +kernel⟩
abbrev s_least_cuts : Stmt := top 20
abbrev N_least_cuts : List Str := ["folds", "few", "cost", "bits", "high", "totals", "lasts", "cuts", "place", "total"]
theorem sc_least_cuts : FnScope N_least_cuts ["folds", "few", "cost", "bits"] (defScope s_least_cuts) := ⟨rfl, rfl, rfl, by decide +kernel, rfl, by decide +kernel, by decide +kernel⟩
abbrev s_are_cuts : Stmt := top 21
abbrev N_are_cuts : List Str := ["folds", "few", "bits", "cuts", "place", "thing", "stretch", "unit"]
theorem sc_are_cuts : FnScope N_are_cuts ["folds", "few", "bits", "cuts"] (defScope s_are_cuts) := ⟨rfl, rfl, rfl, by decide +kernel, rfl, by decide +kernel, by decide +kernel⟩
abbrev s_cost_of : Stmt := top 22
abbrev N_cost_of : List Str := ["folds", "cost", "bits", "cuts", "total", "place", "length", "width", "stretch"]
theorem sc_cost_of : FnScope N_cost_of ["folds", "cost", "bits", "cuts"] (defScope s_cost_of) := ⟨rfl, rfl, rfl, by decide +kernel, rfl, by decide +kernel, by decide +kernel⟩
abbrev s_prices_hold : Stmt := top 23
abbrev N_prices_hold : List Str := ["folds", "few", "cost", "bits", "prices", "ways", "place", "way", "here"]
theorem sc_prices_hold : FnScope N_prices_hold ["folds", "few", "cost", "bits", "prices"] (defScope s_prices_hold) := ⟨rfl, rfl, rfl, by decide +kernel, rfl, by decide +kernel, by decide +kernel⟩
abbrev s_is_cuts_paper : Stmt := top 24
abbrev N_is_cuts_paper : List Str := ["folds", "few", "cost", "bits", "value", "total", "cuts", "prices", "one"]
theorem sc_is_cuts_paper : FnScope N_is_cuts_paper ["folds", "few", "cost", "bits", "value"] (defScope s_is_cuts_paper) := ⟨rfl, rfl, rfl, by decide +kernel, rfl, by decide +kernel, by decide +kernel⟩
abbrev s_least_stretch : Stmt := top 25
abbrev N_least_stretch : List Str := ["folds", "bits", "least", "unit"]
theorem sc_least_stretch : FnScope N_least_stretch ["folds", "bits"] (defScope s_least_stretch) := ⟨rfl, rfl, rfl, by decide +kernel, rfl, by decide +kernel, by decide +kernel⟩
abbrev s_how_many_cuts : Stmt := top 26
abbrev N_how_many_cuts : List Str := ["folds", "few", "cost", "bits", "told", "place", "begin", "best", "ways", "total"]
theorem sc_how_many_cuts : FnScope N_how_many_cuts ["folds", "few", "cost", "bits"] (defScope s_how_many_cuts) := ⟨rfl, rfl, rfl, by decide +kernel, rfl, by decide +kernel, by decide +kernel⟩
abbrev s_law_cell : Stmt := top 28
abbrev N_law_cell : List Str := ["_law_script", "_law_index"]
theorem sc_law_cell : FnScope N_law_cell ["_law_script", "_law_index"] (defScope s_law_cell) := ⟨rfl, rfl, rfl, by decide +kernel, rfl, by decide +kernel, by decide +kernel⟩
abbrev s_law_hash : Stmt := top 29
abbrev N_law_hash : List Str := ["_law_seed", "_law_index", "_law_mixed"]
theorem sc_law_hash : FnScope N_law_hash ["_law_seed", "_law_index"] (defScope s_law_hash) := ⟨rfl, rfl, rfl, by decide +kernel, rfl, by decide +kernel, by decide +kernel⟩
abbrev s_law_generator : Stmt := top 30
abbrev N_law_generator : List Str := ["_law_script", "_law_index", "_law_seed"]
theorem sc_law_generator : FnScope N_law_generator ["_law_script", "_law_index"] (defScope s_law_generator) := ⟨rfl, rfl, rfl, by decide +kernel, rfl, by decide +kernel, by decide +kernel⟩
abbrev s_law_random : Stmt := top 31
abbrev N_law_random : List Str := ["_law_generator_here", "_law_bound", "_law_drawn", "_law_turn"]
theorem sc_law_random : FnScope N_law_random ["_law_generator_here", "_law_bound"] (defScope s_law_random) := ⟨rfl, rfl, rfl, by decide +kernel, rfl, by decide +kernel, by decide +kernel⟩
abbrev s_law_price : Stmt := top 32
abbrev N_law_price : List Str := ["_law_folds", "_law_width", "_law_total", "_law_fold"]
theorem sc_law_price : FnScope N_law_price ["_law_folds", "_law_width"] (defScope s_law_price) := ⟨rfl, rfl, rfl, by decide +kernel, rfl, by decide +kernel, by decide +kernel⟩
abbrev s_law_stretch : Stmt := top 33
abbrev N_law_stretch : List Str := ["_law_folds", "_law_bits", "_law_least", "_law_width", "_law_fold"]
theorem sc_law_stretch : FnScope N_law_stretch ["_law_folds", "_law_bits"] (defScope s_law_stretch) := ⟨rfl, rfl, rfl, by decide +kernel, rfl, by decide +kernel, by decide +kernel⟩
abbrev s_law_lengths : Stmt := top 34
abbrev N_law_lengths : List Str := ["_law_many", "_law_few", "_law_found", "_law_one", "_law_more"]
theorem sc_law_lengths : FnScope N_law_lengths ["_law_many", "_law_few"] (defScope s_law_lengths) := ⟨rfl, rfl, rfl, by decide +kernel, rfl, by decide +kernel, by decide +kernel⟩
abbrev s_law_all_costs : Stmt := top 35
abbrev N_law_all_costs : List Str := ["_law_folds", "_law_few", "_law_cost", "_law_bits", "_law_told", "_law_lengths_here", "_law_length", "_law_place", "_law_total"]
theorem sc_law_all_costs : FnScope N_law_all_costs ["_law_folds", "_law_few", "_law_cost", "_law_bits"] (defScope s_law_all_costs) := ⟨rfl, rfl, rfl, by decide +kernel, rfl, by decide +kernel, by decide +kernel⟩
abbrev s_law_whole : Stmt := top 36
abbrev N_law_whole : List Str := ["_law_thing", "_law_least"]
theorem sc_law_whole : FnScope N_law_whole ["_law_thing", "_law_least"] (defScope s_law_whole) := ⟨rfl, rfl, rfl, by decide +kernel, rfl, by decide +kernel, by decide +kernel⟩
abbrev s_law_cuts_cost : Stmt := top 37
abbrev N_law_cuts_cost : List Str := ["_law_folds", "_law_few", "_law_cost", "_law_bits", "_law_cuts", "_law_thing", "_law_place", "_law_total", "_law_some", "_law_fold"]
theorem sc_law_cuts_cost : FnScope N_law_cuts_cost ["_law_folds", "_law_few", "_law_cost", "_law_bits", "_law_cuts"] (defScope s_law_cuts_cost) := ⟨rfl, rfl, rfl, by decide +kernel, rfl, by decide +kernel, by decide +kernel⟩
abbrev s_law_prices_hold : Stmt := top 38
abbrev N_law_prices_hold : List Str := ["_law_folds", "_law_few", "_law_cost", "_law_bits", "_law_prices", "_law_begin", "_law_end", "_law_one"]
theorem sc_law_prices_hold : FnScope N_law_prices_hold ["_law_folds", "_law_few", "_law_cost", "_law_bits", "_law_prices"] (defScope s_law_prices_hold) := ⟨rfl, rfl, rfl, by decide +kernel, rfl, by decide +kernel, by decide +kernel⟩
abbrev s_law_paper : Stmt := top 39
abbrev N_law_paper : List Str := ["_law_folds", "_law_few", "_law_cost", "_law_bits", "_law_value"]
theorem sc_law_paper : FnScope N_law_paper ["_law_folds", "_law_few", "_law_cost", "_law_bits", "_law_value"] (defScope s_law_paper) := ⟨rfl, rfl, rfl, by decide +kernel, rfl, by decide +kernel, by decide +kernel⟩
abbrev s_law_bent : Stmt := top 40
abbrev N_law_bent : List Str := ["_law_generator_here", "_law_folds", "_law_value", "_law_more", "_law_moved", "_law_menu", "_law_total", "_law_cuts", "_law_prices", "_law_at", "_law_far", "_law_length", "_law_width", "_law_odd", "_law_one"]
theorem sc_law_bent : FnScope N_law_bent ["_law_generator_here", "_law_folds", "_law_value"] (defScope s_law_bent) := ⟨rfl, rfl, rfl, by decide +kernel, rfl, by decide +kernel, by decide +kernel⟩
abbrev s_law_small_right : Stmt := top 41
abbrev N_law_small_right : List Str := ["_law_generator_here", "_law_folds", "_law_few", "_law_cost", "_law_bits", "_law_told", "_law_thing", "_law_kept", "_law_costs", "_law_due", "_law_turn"]
theorem sc_law_small_right : FnScope N_law_small_right ["_law_generator_here", "_law_folds", "_law_few", "_law_cost", "_law_bits"] (defScope s_law_small_right) := ⟨rfl, rfl, rfl, by decide +kernel, rfl, by decide +kernel, by decide +kernel⟩
abbrev s_law_long : Stmt := top 42
abbrev N_law_long : List Str := ["_law_generator_here", "_law_found", "_law_turn", "_law_loud", "_law_step"]
theorem sc_law_long : FnScope N_law_long ["_law_generator_here"] (defScope s_law_long) := ⟨rfl, rfl, rfl, by decide +kernel, rfl, by decide +kernel, by decide +kernel⟩
abbrev s_law : Stmt := top 43
abbrev N_law : List Str := ["_law_script", "_law_generator_here", "_law_loud", "_law_folds", "_law_bits", "_law_told", "_law_few", "_law_cost", "_law_turn"]
theorem sc_law : FnScope N_law ["_law_script"] (defScope s_law) := ⟨rfl, rfl, rfl, by decide +kernel, rfl, by decide +kernel, by decide +kernel⟩
abbrev s_Way___init__ : Stmt := inClass (top 17) 0
abbrev N_Way___init__ : List Str := ["self", "folds", "width", "bits", "unit"]
theorem sc_Way___init__ : FnScope N_Way___init__ ["self", "folds", "width", "bits"] (defScope s_Way___init__) := ⟨rfl, rfl, rfl, by decide +kernel, rfl, by decide +kernel, by decide +kernel⟩
abbrev s_Way_passed : Stmt := inClass (top 17) 1
abbrev N_Way_passed : List Str := ["self", "place"]
theorem sc_Way_passed : FnScope N_Way_passed ["self", "place"] (defScope s_Way_passed) := ⟨rfl, rfl, rfl, by decide +kernel, rfl, by decide +kernel, by decide +kernel⟩
abbrev s_Way_begin : Stmt := inClass (top 17) 2
abbrev N_Way_begin : List Str := ["self", "place", "price_there", "worth"]
theorem sc_Way_begin : FnScope N_Way_begin ["self", "place", "price_there"] (defScope s_Way_begin) := ⟨rfl, rfl, rfl, by decide +kernel, rfl, by decide +kernel, by decide +kernel⟩
abbrev s_Way_least : Stmt := inClass (top 17) 3
abbrev N_Way_least : List Str := ["self", "place"]
theorem sc_Way_least : FnScope N_Way_least ["self", "place"] (defScope s_Way_least) := ⟨rfl, rfl, rfl, by decide +kernel, rfl, by decide +kernel, by decide +kernel⟩
/-- what the top has left -/
structure Top (K : PySem.W.Frag) (mg : Str → Option Value) where
  C_Way : Addr
  gc_Way : mg "Way" = some (.ref C_Way)
  cl_Way : Cls K C_Way
  ic_Way : C8.InsC K C_Way
  na_Way_kind : NoAttr K C_Way "kind"
  na_Way_sums : NoAttr K C_Way "sums"
  na_Way_shut : NoAttr K C_Way "shut"
  na_Way_best : NoAttr K C_Way "best"
  na_Way_since : NoAttr K C_Way "since"
  f_is_whole : Addr
  fd_is_whole : FuncData
  F_is_whole : FunD K "is_whole" "is_whole" (defArgs s_is_whole) (defBody s_is_whole) (defScope s_is_whole) [] [] f_is_whole fd_is_whole
  b_is_whole : Binds K fd_is_whole ["value"] []
  g_is_whole : mg "is_whole" = some (.ref f_is_whole)
  f_is_between : Addr
  fd_is_between : FuncData
  F_is_between : FunD K "is_between" "is_between" (defArgs s_is_between) (defBody s_is_between) (defScope s_is_between) [] [] f_is_between fd_is_between
  b_is_between : Binds K fd_is_between ["value", "low", "high"] []
  g_is_between : mg "is_between" = some (.ref f_is_between)
  f_check_number : Addr
  fd_check_number : FuncData
  F_check_number : FunD K "check_number" "check_number" (defArgs s_check_number) (defBody s_check_number) (defScope s_check_number) [] [] f_check_number fd_check_number
  b_check_number : Binds K fd_check_number ["number", "low", "high"] []
  g_check_number : mg "check_number" = some (.ref f_check_number)
  f_check_folds : Addr
  fd_check_folds : FuncData
  F_check_folds : FunD K "check_folds" "check_folds" (defArgs s_check_folds) (defBody s_check_folds) (defScope s_check_folds) [] [] f_check_folds fd_check_folds
  b_check_folds : Binds K fd_check_folds ["folds"] []
  g_check_folds : mg "check_folds" = some (.ref f_check_folds)
  f_raw_price : Addr
  fd_raw_price : FuncData
  F_raw_price : FunD K "raw_price" "raw_price" (defArgs s_raw_price) (defBody s_raw_price) (defScope s_raw_price) [] [] f_raw_price fd_raw_price
  b_raw_price : Binds K fd_raw_price ["folds", "width"] []
  g_raw_price : mg "raw_price" = some (.ref f_raw_price)
  f_high_bits : Addr
  fd_high_bits : FuncData
  F_high_bits : FunD K "high_bits" "high_bits" (defArgs s_high_bits) (defBody s_high_bits) (defScope s_high_bits) [] [] f_high_bits fd_high_bits
  b_high_bits : Binds K fd_high_bits ["folds"] []
  g_high_bits : mg "high_bits" = some (.ref f_high_bits)
  f_told_least : Addr
  fd_told_least : FuncData
  F_told_least : FunD K "told_least" "told_least" (defArgs s_told_least) (defBody s_told_least) (defScope s_told_least) [] [] f_told_least fd_told_least
  b_told_least : Binds K fd_told_least ["folds"] []
  g_told_least : mg "told_least" = some (.ref f_told_least)
  f_check_cutting : Addr
  fd_check_cutting : FuncData
  F_check_cutting : FunD K "check_cutting" "check_cutting" (defArgs s_check_cutting) (defBody s_check_cutting) (defScope s_check_cutting) [] [] f_check_cutting fd_check_cutting
  b_check_cutting : Binds K fd_check_cutting ["folds", "few", "cost", "bits"] []
  g_check_cutting : mg "check_cutting" = some (.ref f_check_cutting)
  f_sums_ahead : Addr
  fd_sums_ahead : FuncData
  F_sums_ahead : FunD K "sums_ahead" "sums_ahead" (defArgs s_sums_ahead) (defBody s_sums_ahead) (defScope s_sums_ahead) [] [] f_sums_ahead fd_sums_ahead
  b_sums_ahead : Binds K fd_sums_ahead ["numbers"] []
  g_sums_ahead : mg "sums_ahead" = some (.ref f_sums_ahead)
  f_ways_of : Addr
  fd_ways_of : FuncData
  F_ways_of : FunD K "ways_of" "ways_of" (defArgs s_ways_of) (defBody s_ways_of) (defScope s_ways_of) [] [] f_ways_of fd_ways_of
  b_ways_of : Binds K fd_ways_of ["folds", "bits"] []
  g_ways_of : mg "ways_of" = some (.ref f_ways_of)
  f_gone_along : Addr
  fd_gone_along : FuncData
  F_gone_along : FunD K "gone_along" "gone_along" (defArgs s_gone_along) (defBody s_gone_along) (defScope s_gone_along) [] [] f_gone_along fd_gone_along
  b_gone_along : Binds K fd_gone_along ["folds", "few", "cost", "bits"] []
  g_gone_along : mg "gone_along" = some (.ref f_gone_along)
  f_least_cuts : Addr
  fd_least_cuts : FuncData
  F_least_cuts : FunD K "least_cuts" "least_cuts" (defArgs s_least_cuts) (defBody s_least_cuts) (defScope s_least_cuts) [.non] [] f_least_cuts fd_least_cuts
  b_least_cuts : Binds K fd_least_cuts ["folds", "few", "cost", "bits"] []
  g_least_cuts : mg "least_cuts" = some (.ref f_least_cuts)
  e0_least_cuts : List Value
  v0_least_cuts : Vals [.non] e0_least_cuts
  b0_least_cuts : Binds K fd_least_cuts ["folds", "few", "cost", "bits"] e0_least_cuts
  f_are_cuts : Addr
  fd_are_cuts : FuncData
  F_are_cuts : FunD K "are_cuts" "are_cuts" (defArgs s_are_cuts) (defBody s_are_cuts) (defScope s_are_cuts) [] [] f_are_cuts fd_are_cuts
  b_are_cuts : Binds K fd_are_cuts ["folds", "few", "bits", "cuts"] []
  g_are_cuts : mg "are_cuts" = some (.ref f_are_cuts)
  f_cost_of : Addr
  fd_cost_of : FuncData
  F_cost_of : FunD K "cost_of" "cost_of" (defArgs s_cost_of) (defBody s_cost_of) (defScope s_cost_of) [] [] f_cost_of fd_cost_of
  b_cost_of : Binds K fd_cost_of ["folds", "cost", "bits", "cuts"] []
  g_cost_of : mg "cost_of" = some (.ref f_cost_of)
  f_prices_hold : Addr
  fd_prices_hold : FuncData
  F_prices_hold : FunD K "prices_hold" "prices_hold" (defArgs s_prices_hold) (defBody s_prices_hold) (defScope s_prices_hold) [] [] f_prices_hold fd_prices_hold
  b_prices_hold : Binds K fd_prices_hold ["folds", "few", "cost", "bits", "prices"] []
  g_prices_hold : mg "prices_hold" = some (.ref f_prices_hold)
  f_is_cuts_paper : Addr
  fd_is_cuts_paper : FuncData
  F_is_cuts_paper : FunD K "is_cuts_paper" "is_cuts_paper" (defArgs s_is_cuts_paper) (defBody s_is_cuts_paper) (defScope s_is_cuts_paper) [] [] f_is_cuts_paper fd_is_cuts_paper
  b_is_cuts_paper : Binds K fd_is_cuts_paper ["folds", "few", "cost", "bits", "value"] []
  g_is_cuts_paper : mg "is_cuts_paper" = some (.ref f_is_cuts_paper)
  f_least_stretch : Addr
  fd_least_stretch : FuncData
  F_least_stretch : FunD K "least_stretch" "least_stretch" (defArgs s_least_stretch) (defBody s_least_stretch) (defScope s_least_stretch) [] [] f_least_stretch fd_least_stretch
  b_least_stretch : Binds K fd_least_stretch ["folds", "bits"] []
  g_least_stretch : mg "least_stretch" = some (.ref f_least_stretch)
  f_how_many_cuts : Addr
  fd_how_many_cuts : FuncData
  F_how_many_cuts : FunD K "how_many_cuts" "how_many_cuts" (defArgs s_how_many_cuts) (defBody s_how_many_cuts) (defScope s_how_many_cuts) [.non] [] f_how_many_cuts fd_how_many_cuts
  b_how_many_cuts : Binds K fd_how_many_cuts ["folds", "few", "cost", "bits"] []
  g_how_many_cuts : mg "how_many_cuts" = some (.ref f_how_many_cuts)
  e0_how_many_cuts : List Value
  v0_how_many_cuts : Vals [.non] e0_how_many_cuts
  b0_how_many_cuts : Binds K fd_how_many_cuts ["folds", "few", "cost", "bits"] e0_how_many_cuts
  f_law_cell : Addr
  fd_law_cell : FuncData
  F_law_cell : FunD K "_law_cell" "_law_cell" (defArgs s_law_cell) (defBody s_law_cell) (defScope s_law_cell) [] [] f_law_cell fd_law_cell
  b_law_cell : Binds K fd_law_cell ["_law_script", "_law_index"] []
  g_law_cell : mg "_law_cell" = some (.ref f_law_cell)
  f_law_hash : Addr
  fd_law_hash : FuncData
  F_law_hash : FunD K "_law_hash" "_law_hash" (defArgs s_law_hash) (defBody s_law_hash) (defScope s_law_hash) [] [] f_law_hash fd_law_hash
  b_law_hash : Binds K fd_law_hash ["_law_seed", "_law_index"] []
  g_law_hash : mg "_law_hash" = some (.ref f_law_hash)
  f_law_generator : Addr
  fd_law_generator : FuncData
  F_law_generator : FunD K "_law_generator" "_law_generator" (defArgs s_law_generator) (defBody s_law_generator) (defScope s_law_generator) [] [] f_law_generator fd_law_generator
  b_law_generator : Binds K fd_law_generator ["_law_script", "_law_index"] []
  g_law_generator : mg "_law_generator" = some (.ref f_law_generator)
  f_law_random : Addr
  fd_law_random : FuncData
  F_law_random : FunD K "_law_random" "_law_random" (defArgs s_law_random) (defBody s_law_random) (defScope s_law_random) [] [] f_law_random fd_law_random
  b_law_random : Binds K fd_law_random ["_law_generator_here", "_law_bound"] []
  g_law_random : mg "_law_random" = some (.ref f_law_random)
  f_law_price : Addr
  fd_law_price : FuncData
  F_law_price : FunD K "_law_price" "_law_price" (defArgs s_law_price) (defBody s_law_price) (defScope s_law_price) [] [] f_law_price fd_law_price
  b_law_price : Binds K fd_law_price ["_law_folds", "_law_width"] []
  g_law_price : mg "_law_price" = some (.ref f_law_price)
  f_law_stretch : Addr
  fd_law_stretch : FuncData
  F_law_stretch : FunD K "_law_stretch" "_law_stretch" (defArgs s_law_stretch) (defBody s_law_stretch) (defScope s_law_stretch) [] [] f_law_stretch fd_law_stretch
  b_law_stretch : Binds K fd_law_stretch ["_law_folds", "_law_bits"] []
  g_law_stretch : mg "_law_stretch" = some (.ref f_law_stretch)
  f_law_lengths : Addr
  fd_law_lengths : FuncData
  F_law_lengths : FunD K "_law_lengths" "_law_lengths" (defArgs s_law_lengths) (defBody s_law_lengths) (defScope s_law_lengths) [] [] f_law_lengths fd_law_lengths
  b_law_lengths : Binds K fd_law_lengths ["_law_many", "_law_few"] []
  g_law_lengths : mg "_law_lengths" = some (.ref f_law_lengths)
  f_law_all_costs : Addr
  fd_law_all_costs : FuncData
  F_law_all_costs : FunD K "_law_all_costs" "_law_all_costs" (defArgs s_law_all_costs) (defBody s_law_all_costs) (defScope s_law_all_costs) [] [] f_law_all_costs fd_law_all_costs
  b_law_all_costs : Binds K fd_law_all_costs ["_law_folds", "_law_few", "_law_cost", "_law_bits"] []
  g_law_all_costs : mg "_law_all_costs" = some (.ref f_law_all_costs)
  f_law_whole : Addr
  fd_law_whole : FuncData
  F_law_whole : FunD K "_law_whole" "_law_whole" (defArgs s_law_whole) (defBody s_law_whole) (defScope s_law_whole) [] [] f_law_whole fd_law_whole
  b_law_whole : Binds K fd_law_whole ["_law_thing", "_law_least"] []
  g_law_whole : mg "_law_whole" = some (.ref f_law_whole)
  f_law_cuts_cost : Addr
  fd_law_cuts_cost : FuncData
  F_law_cuts_cost : FunD K "_law_cuts_cost" "_law_cuts_cost" (defArgs s_law_cuts_cost) (defBody s_law_cuts_cost) (defScope s_law_cuts_cost) [] [] f_law_cuts_cost fd_law_cuts_cost
  b_law_cuts_cost : Binds K fd_law_cuts_cost ["_law_folds", "_law_few", "_law_cost", "_law_bits", "_law_cuts"] []
  g_law_cuts_cost : mg "_law_cuts_cost" = some (.ref f_law_cuts_cost)
  f_law_prices_hold : Addr
  fd_law_prices_hold : FuncData
  F_law_prices_hold : FunD K "_law_prices_hold" "_law_prices_hold" (defArgs s_law_prices_hold) (defBody s_law_prices_hold) (defScope s_law_prices_hold) [] [] f_law_prices_hold fd_law_prices_hold
  b_law_prices_hold : Binds K fd_law_prices_hold ["_law_folds", "_law_few", "_law_cost", "_law_bits", "_law_prices"] []
  g_law_prices_hold : mg "_law_prices_hold" = some (.ref f_law_prices_hold)
  f_law_paper : Addr
  fd_law_paper : FuncData
  F_law_paper : FunD K "_law_paper" "_law_paper" (defArgs s_law_paper) (defBody s_law_paper) (defScope s_law_paper) [] [] f_law_paper fd_law_paper
  b_law_paper : Binds K fd_law_paper ["_law_folds", "_law_few", "_law_cost", "_law_bits", "_law_value"] []
  g_law_paper : mg "_law_paper" = some (.ref f_law_paper)
  f_law_bent : Addr
  fd_law_bent : FuncData
  F_law_bent : FunD K "_law_bent" "_law_bent" (defArgs s_law_bent) (defBody s_law_bent) (defScope s_law_bent) [] [] f_law_bent fd_law_bent
  b_law_bent : Binds K fd_law_bent ["_law_generator_here", "_law_folds", "_law_value"] []
  g_law_bent : mg "_law_bent" = some (.ref f_law_bent)
  f_law_small_right : Addr
  fd_law_small_right : FuncData
  F_law_small_right : FunD K "_law_small_right" "_law_small_right" (defArgs s_law_small_right) (defBody s_law_small_right) (defScope s_law_small_right) [] [] f_law_small_right fd_law_small_right
  b_law_small_right : Binds K fd_law_small_right ["_law_generator_here", "_law_folds", "_law_few", "_law_cost", "_law_bits"] []
  g_law_small_right : mg "_law_small_right" = some (.ref f_law_small_right)
  f_law_long : Addr
  fd_law_long : FuncData
  F_law_long : FunD K "_law_long" "_law_long" (defArgs s_law_long) (defBody s_law_long) (defScope s_law_long) [] [] f_law_long fd_law_long
  b_law_long : Binds K fd_law_long ["_law_generator_here"] []
  g_law_long : mg "_law_long" = some (.ref f_law_long)
  f_law : Addr
  fd_law : FuncData
  F_law : FunD K "law" "law" (defArgs s_law) (defBody s_law) (defScope s_law) [] [] f_law fd_law
  b_law : Binds K fd_law ["_law_script"] []
  g_law : mg "law" = some (.ref f_law)
  f_Way___init__ : Addr
  fd_Way___init__ : FuncData
  F_Way___init__ : FunD K "__init__" "Way.__init__" (defArgs s_Way___init__) (defBody s_Way___init__) (defScope s_Way___init__) [] [] f_Way___init__ fd_Way___init__
  b_Way___init__ : Binds K fd_Way___init__ ["self", "folds", "width", "bits"] []
  me_Way___init__ : Meth K C_Way "__init__" f_Way___init__
  mk_Way : Mk K C_Way f_Way___init__
  f_Way_passed : Addr
  fd_Way_passed : FuncData
  F_Way_passed : FunD K "passed" "Way.passed" (defArgs s_Way_passed) (defBody s_Way_passed) (defScope s_Way_passed) [] [] f_Way_passed fd_Way_passed
  b_Way_passed : Binds K fd_Way_passed ["self", "place"] []
  me_Way_passed : Meth K C_Way "passed" f_Way_passed
  f_Way_begin : Addr
  fd_Way_begin : FuncData
  F_Way_begin : FunD K "begin" "Way.begin" (defArgs s_Way_begin) (defBody s_Way_begin) (defScope s_Way_begin) [] [] f_Way_begin fd_Way_begin
  b_Way_begin : Binds K fd_Way_begin ["self", "place", "price_there"] []
  me_Way_begin : Meth K C_Way "begin" f_Way_begin
  f_Way_least : Addr
  fd_Way_least : FuncData
  F_Way_least : FunD K "least" "Way.least" (defArgs s_Way_least) (defBody s_Way_least) (defScope s_Way_least) [] [] f_Way_least fd_Way_least
  b_Way_least : Binds K fd_Way_least ["self", "place"] []
  me_Way_least : Meth K C_Way "least" f_Way_least
  n_len : mg "len" = none
  n_sum : mg "sum" = none
  n_max : mg "max" = none
  n_min : mg "min" = none
  n_int : mg "int" = none
  n_bool : mg "bool" = none
  n_list : mg "list" = none
  n_tuple : mg "tuple" = none
  n_range : mg "range" = none
  n_isinstance : mg "isinstance" = none
  n_repr : mg "repr" = none
  t_MOST_WIDTH : Tok
  m_MOST_WIDTH : mg "MOST_WIDTH" = some (.int 120 t_MOST_WIDTH)
def d_is_whole : He.DefD := ⟨("is_whole", none), "is_whole", "is_whole", defArgs s_is_whole, defBody s_is_whole, defScope s_is_whole, [], []⟩
def d_is_between : He.DefD := ⟨("is_between", none), "is_between", "is_between", defArgs s_is_between, defBody s_is_between, defScope s_is_between, [], []⟩
def d_check_number : He.DefD := ⟨("check_number", none), "check_number", "check_number", defArgs s_check_number, defBody s_check_number, defScope s_check_number, [], []⟩
def d_check_folds : He.DefD := ⟨("check_folds", none), "check_folds", "check_folds", defArgs s_check_folds, defBody s_check_folds, defScope s_check_folds, [], []⟩
def d_raw_price : He.DefD := ⟨("raw_price", none), "raw_price", "raw_price", defArgs s_raw_price, defBody s_raw_price, defScope s_raw_price, [], []⟩
def d_high_bits : He.DefD := ⟨("high_bits", none), "high_bits", "high_bits", defArgs s_high_bits, defBody s_high_bits, defScope s_high_bits, [], []⟩
def d_told_least : He.DefD := ⟨("told_least", none), "told_least", "told_least", defArgs s_told_least, defBody s_told_least, defScope s_told_least, [], []⟩
def d_check_cutting : He.DefD := ⟨("check_cutting", none), "check_cutting", "check_cutting", defArgs s_check_cutting, defBody s_check_cutting, defScope s_check_cutting, [], []⟩
def d_sums_ahead : He.DefD := ⟨("sums_ahead", none), "sums_ahead", "sums_ahead", defArgs s_sums_ahead, defBody s_sums_ahead, defScope s_sums_ahead, [], []⟩
def d_ways_of : He.DefD := ⟨("ways_of", none), "ways_of", "ways_of", defArgs s_ways_of, defBody s_ways_of, defScope s_ways_of, [], []⟩
def d_gone_along : He.DefD := ⟨("gone_along", none), "gone_along", "gone_along", defArgs s_gone_along, defBody s_gone_along, defScope s_gone_along, [], []⟩
def d_least_cuts : He.DefD := ⟨("least_cuts", none), "least_cuts", "least_cuts", defArgs s_least_cuts, defBody s_least_cuts, defScope s_least_cuts, [.non], []⟩
def d_are_cuts : He.DefD := ⟨("are_cuts", none), "are_cuts", "are_cuts", defArgs s_are_cuts, defBody s_are_cuts, defScope s_are_cuts, [], []⟩
def d_cost_of : He.DefD := ⟨("cost_of", none), "cost_of", "cost_of", defArgs s_cost_of, defBody s_cost_of, defScope s_cost_of, [], []⟩
def d_prices_hold : He.DefD := ⟨("prices_hold", none), "prices_hold", "prices_hold", defArgs s_prices_hold, defBody s_prices_hold, defScope s_prices_hold, [], []⟩
def d_is_cuts_paper : He.DefD := ⟨("is_cuts_paper", none), "is_cuts_paper", "is_cuts_paper", defArgs s_is_cuts_paper, defBody s_is_cuts_paper, defScope s_is_cuts_paper, [], []⟩
def d_least_stretch : He.DefD := ⟨("least_stretch", none), "least_stretch", "least_stretch", defArgs s_least_stretch, defBody s_least_stretch, defScope s_least_stretch, [], []⟩
def d_how_many_cuts : He.DefD := ⟨("how_many_cuts", none), "how_many_cuts", "how_many_cuts", defArgs s_how_many_cuts, defBody s_how_many_cuts, defScope s_how_many_cuts, [.non], []⟩
def d_law_cell : He.DefD := ⟨("_law_cell", none), "_law_cell", "_law_cell", defArgs s_law_cell, defBody s_law_cell, defScope s_law_cell, [], []⟩
def d_law_hash : He.DefD := ⟨("_law_hash", none), "_law_hash", "_law_hash", defArgs s_law_hash, defBody s_law_hash, defScope s_law_hash, [], []⟩
def d_law_generator : He.DefD := ⟨("_law_generator", none), "_law_generator", "_law_generator", defArgs s_law_generator, defBody s_law_generator, defScope s_law_generator, [], []⟩
def d_law_random : He.DefD := ⟨("_law_random", none), "_law_random", "_law_random", defArgs s_law_random, defBody s_law_random, defScope s_law_random, [], []⟩
def d_law_price : He.DefD := ⟨("_law_price", none), "_law_price", "_law_price", defArgs s_law_price, defBody s_law_price, defScope s_law_price, [], []⟩
def d_law_stretch : He.DefD := ⟨("_law_stretch", none), "_law_stretch", "_law_stretch", defArgs s_law_stretch, defBody s_law_stretch, defScope s_law_stretch, [], []⟩
def d_law_lengths : He.DefD := ⟨("_law_lengths", none), "_law_lengths", "_law_lengths", defArgs s_law_lengths, defBody s_law_lengths, defScope s_law_lengths, [], []⟩
def d_law_all_costs : He.DefD := ⟨("_law_all_costs", none), "_law_all_costs", "_law_all_costs", defArgs s_law_all_costs, defBody s_law_all_costs, defScope s_law_all_costs, [], []⟩
def d_law_whole : He.DefD := ⟨("_law_whole", none), "_law_whole", "_law_whole", defArgs s_law_whole, defBody s_law_whole, defScope s_law_whole, [], []⟩
def d_law_cuts_cost : He.DefD := ⟨("_law_cuts_cost", none), "_law_cuts_cost", "_law_cuts_cost", defArgs s_law_cuts_cost, defBody s_law_cuts_cost, defScope s_law_cuts_cost, [], []⟩
def d_law_prices_hold : He.DefD := ⟨("_law_prices_hold", none), "_law_prices_hold", "_law_prices_hold", defArgs s_law_prices_hold, defBody s_law_prices_hold, defScope s_law_prices_hold, [], []⟩
def d_law_paper : He.DefD := ⟨("_law_paper", none), "_law_paper", "_law_paper", defArgs s_law_paper, defBody s_law_paper, defScope s_law_paper, [], []⟩
def d_law_bent : He.DefD := ⟨("_law_bent", none), "_law_bent", "_law_bent", defArgs s_law_bent, defBody s_law_bent, defScope s_law_bent, [], []⟩
def d_law_small_right : He.DefD := ⟨("_law_small_right", none), "_law_small_right", "_law_small_right", defArgs s_law_small_right, defBody s_law_small_right, defScope s_law_small_right, [], []⟩
def d_law_long : He.DefD := ⟨("_law_long", none), "_law_long", "_law_long", defArgs s_law_long, defBody s_law_long, defScope s_law_long, [], []⟩
def d_law : He.DefD := ⟨("law", none), "law", "law", defArgs s_law, defBody s_law, defScope s_law, [], []⟩
def d_Way___init__ : He.DefD := ⟨("Way", some "__init__"), "__init__", "Way.__init__", defArgs s_Way___init__, defBody s_Way___init__, defScope s_Way___init__, [], []⟩
def d_Way_passed : He.DefD := ⟨("Way", some "passed"), "passed", "Way.passed", defArgs s_Way_passed, defBody s_Way_passed, defScope s_Way_passed, [], []⟩
def d_Way_begin : He.DefD := ⟨("Way", some "begin"), "begin", "Way.begin", defArgs s_Way_begin, defBody s_Way_begin, defScope s_Way_begin, [], []⟩
def d_Way_least : He.DefD := ⟨("Way", some "least"), "least", "Way.least", defArgs s_Way_least, defBody s_Way_least, defScope s_Way_least, [], []⟩
def fn : List He.DefD := [d_is_whole, d_is_between, d_check_number, d_check_folds, d_raw_price, d_high_bits, d_told_least, d_check_cutting, d_sums_ahead, d_ways_of, d_gone_along, d_least_cuts, d_are_cuts, d_cost_of, d_prices_hold, d_is_cuts_paper, d_least_stretch, d_how_many_cuts, d_law_cell, d_law_hash, d_law_generator, d_law_random, d_law_price, d_law_stretch, d_law_lengths, d_law_all_costs, d_law_whole, d_law_cuts_cost, d_law_prices_hold, d_law_paper, d_law_bent, d_law_small_right, d_law_long, d_law, d_Way___init__, d_Way_passed, d_Way_begin, d_Way_least]
def fa0 : List He.Fa := [.glo "is_whole", .glo "is_between", .glo "check_number", .glo "check_folds", .glo "raw_price", .glo "high_bits", .glo "told_least", .glo "check_cutting", .glo "sums_ahead", .glo "ways_of", .glo "gone_along", .glo "least_cuts", .glo "are_cuts", .glo "cost_of", .glo "prices_hold", .glo "is_cuts_paper", .glo "least_stretch", .glo "how_many_cuts", .glo "_law_cell", .glo "_law_hash", .glo "_law_generator", .glo "_law_random", .glo "_law_price", .glo "_law_stretch", .glo "_law_lengths", .glo "_law_all_costs", .glo "_law_whole", .glo "_law_cuts_cost", .glo "_law_prices_hold", .glo "_law_paper"]
def fa1 : List He.Fa := [.glo "_law_bent", .glo "_law_small_right", .glo "_law_long", .glo "law", .free "len", .free "sum", .free "max", .free "min", .free "int", .free "bool", .free "list", .free "tuple", .free "range", .free "isinstance", .free "repr", .int "MOST_WIDTH" 120, .glo "Way", .cls "Way", .noat "Way" "kind", .noat "Way" "sums", .noat "Way" "shut", .noat "Way" "best", .noat "Way" "since", .mkr "Way", .meth "Way" "__init__", .meth "Way" "passed", .meth "Way" "begin", .meth "Way" "least"]
def fa : List He.Fa := fa0 ++ fa1
/-- isinstance of an own class -/
def insB (K : PySem.W.Frag) (x : Str) : Bool := decide (PySem.W.findIn K (.ref (He.ga K x)) "__class__" = some (some (.builtin "object.__class__"))) && (decide (PySem.W.specialIn K (.builtin "object.__class__") "__get__" = some (some (.builtin "getset_descriptor.__get__"))) && (decide (PySem.W.takesIn K (.builtin "object.__class__") = some true) && (decide (PySem.W.mroIn K (He.ga K x) (.type "object") = some true) && decide (PySem.W.kitOne K (.ref (He.ga K x)) (.ref (He.ga K x)) = some true))))
theorem insB_ok {K : PySem.W.Frag} {x : Str} (cl : Cls K (He.ga K x)) (h : insB K x = true) : C8.InsC K (He.ga K x) := by
  unfold insB at h
  simp only [Bool.and_eq_true, decide_eq_true_eq] at h
  exact ⟨cl, h.1, h.2.1, h.2.2.1, h.2.2.2.1, h.2.2.2.2⟩
def eqB (K : PySem.W.Frag) (x : Str) : Bool := decide (PySem.W.findIn K (.ref (He.ga K x)) "__ne__" = some (some (.builtin "object.__ne__"))) && (decide (PySem.W.subIn K (.ref (He.ga K x)) (.type "object") = some true) && (decide (PySem.W.subIn K (.type "list") (.ref (He.ga K x)) = some false) && (decide (PySem.W.kitOne K (.type "list") (.ref (He.ga K x)) = some false) && (decide (PySem.W.subIn K (.type "tuple") (.ref (He.ga K x)) = some false) && decide (PySem.W.kitOne K (.type "tuple") (.ref (He.ga K x)) = some false)))))
def eqs : List Str := []
def own : List Str := ["Way"]
def ex (K : PySem.W.Frag) : Bool := (own.all fun x => insB K x) && eqs.all fun x => eqB K x
abbrev R : PySem.W.OpenRow := PySem.W.OpenLaw.row PySem.Challenge.rw_wholesound_k46_whole_least_cuts
abbrev Al : Type := He.AlD × Bool
def obsG (g : Addr → Option Obj) : Al := (He.obsDG 5 fa fn g, ex (He.frG g (He.asD g 5)))
def Says (K : PySem.W.Frag) : Prop := He.SaysD fa fn K ∧ ex K = true
def hk : PySem.W.Hook where
  α := Al
  obs := fun s => obsG s.heap.get?
  val := fun _ => (He.valD fn, true)
  says := fun _ h => ∃ K : PySem.W.Frag, K.In h ∧ Says K
  of := fun _ _ e => ⟨_, He.frG_in, congrArg Prod.fst e, congrArg Prod.snd e⟩
  keeps := fun _ _ _ ⟨K, hK, c⟩ k => ⟨K, PySem.W.Frag.In.keeps hK k, c⟩
def ob (s : PySem.W.SharedT) : Al := obsG (HandSHeadRun.getT s)
theorem ob_eq (s : PySem.W.SharedT) : ob s = hk.obs s.abs := by
  have e : HandSHeadRun.getT s = s.abs.heap.get? := funext (HandSHeadRun.getT_eq s)
  show obsG (HandSHeadRun.getT s) = obsG s.abs.heap.get?
  rw [e]
def loose0 : List PySem.Str := ["SoundError", "InvalidNumber", "InvalidFolds", "is_whole", "is_between", "check_number", "MOST_WIDTH", "check_folds", "raw_price", "high_bits", "told_least", "check_cutting", "sums_ahead", "Way", "ways_of", "gone_along", "least_cuts", "are_cuts", "cost_of", "prices_hold", "is_cuts_paper", "least_stretch", "how_many_cuts", "_law_cell", "_law_hash", "_law_generator", "_law_random", "_law_price", "_law_stretch", "_law_lengths"]
def loose1 : List PySem.Str := ["_law_all_costs", "_law_whole", "_law_cuts_cost", "_law_prices_hold", "_law_paper", "_law_bent", "_law_small_right", "_law_long"]
abbrev loose : List PySem.Str := loose0 ++ loose1
theorem run (w : World) : HandSHeadRun.RunEq R (PySem.W.view R.prog [43]) hk ob 8000 loose w := by
  intro os
  kernel_rfl
noncomputable def top_mk {K : PySem.W.Frag} {h : Heap} {mg : Str → Option Value} (X : K.In h) (G : h.Ns mainGlobals mg) (c : Says K) : Top K mg :=
  let p0 := c.1.def_ 0 (d := d_is_whole) rfl
  let p1 := c.1.def_ 1 (d := d_is_between) rfl
  let p2 := c.1.def_ 2 (d := d_check_number) rfl
  let p3 := c.1.def_ 3 (d := d_check_folds) rfl
  let p4 := c.1.def_ 4 (d := d_raw_price) rfl
  let p5 := c.1.def_ 5 (d := d_high_bits) rfl
  let p6 := c.1.def_ 6 (d := d_told_least) rfl
  let p7 := c.1.def_ 7 (d := d_check_cutting) rfl
  let p8 := c.1.def_ 8 (d := d_sums_ahead) rfl
  let p9 := c.1.def_ 9 (d := d_ways_of) rfl
  let p10 := c.1.def_ 10 (d := d_gone_along) rfl
  let p11 := c.1.def_ 11 (d := d_least_cuts) rfl
  let p12 := c.1.def_ 12 (d := d_are_cuts) rfl
  let p13 := c.1.def_ 13 (d := d_cost_of) rfl
  let p14 := c.1.def_ 14 (d := d_prices_hold) rfl
  let p15 := c.1.def_ 15 (d := d_is_cuts_paper) rfl
  let p16 := c.1.def_ 16 (d := d_least_stretch) rfl
  let p17 := c.1.def_ 17 (d := d_how_many_cuts) rfl
  let p18 := c.1.def_ 18 (d := d_law_cell) rfl
  let p19 := c.1.def_ 19 (d := d_law_hash) rfl
  let p20 := c.1.def_ 20 (d := d_law_generator) rfl
  let p21 := c.1.def_ 21 (d := d_law_random) rfl
  let p22 := c.1.def_ 22 (d := d_law_price) rfl
  let p23 := c.1.def_ 23 (d := d_law_stretch) rfl
  let p24 := c.1.def_ 24 (d := d_law_lengths) rfl
  let p25 := c.1.def_ 25 (d := d_law_all_costs) rfl
  let p26 := c.1.def_ 26 (d := d_law_whole) rfl
  let p27 := c.1.def_ 27 (d := d_law_cuts_cost) rfl
  let p28 := c.1.def_ 28 (d := d_law_prices_hold) rfl
  let p29 := c.1.def_ 29 (d := d_law_paper) rfl
  let p30 := c.1.def_ 30 (d := d_law_bent) rfl
  let p31 := c.1.def_ 31 (d := d_law_small_right) rfl
  let p32 := c.1.def_ 32 (d := d_law_long) rfl
  let p33 := c.1.def_ 33 (d := d_law) rfl
  let p34 := c.1.def_ 34 (d := d_Way___init__) rfl
  let p35 := c.1.def_ 35 (d := d_Way_passed) rfl
  let p36 := c.1.def_ 36 (d := d_Way_begin) rfl
  let p37 := c.1.def_ 37 (d := d_Way_least) rfl
  let q0 := He.int_ok X G (c.1.fact 45 (f := .int "MOST_WIDTH" 120) rfl)
  { C_Way := _, gc_Way := He.glo_ok X G (c.1.fact 46 (f := .glo "Way") rfl), cl_Way := He.cls_ok (c.1.fact 47 (f := .cls "Way") rfl), ic_Way := insB_ok (x := "Way") (He.cls_ok (c.1.fact 47 (f := .cls "Way") rfl)) (List.all_eq_true.mp (Bool.and_eq_true_iff.mp c.2).1 "Way" (by decide +kernel)),
    na_Way_kind := He.noat_ok (c.1.fact 48 (f := .noat "Way" "kind") rfl),
    na_Way_sums := He.noat_ok (c.1.fact 49 (f := .noat "Way" "sums") rfl),
    na_Way_shut := He.noat_ok (c.1.fact 50 (f := .noat "Way" "shut") rfl),
    na_Way_best := He.noat_ok (c.1.fact 51 (f := .noat "Way" "best") rfl),
    na_Way_since := He.noat_ok (c.1.fact 52 (f := .noat "Way" "since") rfl),
    f_is_whole := _, fd_is_whole := p0.choose, F_is_whole := p0.choose_spec, b_is_whole := p0.choose_spec.bindsN fun _ _ _ _ _ _ us hl => match us, hl with | [_], _ => rfl, g_is_whole := He.glo_ok X G (c.1.fact 0 (f := .glo "is_whole") rfl),
    f_is_between := _, fd_is_between := p1.choose, F_is_between := p1.choose_spec, b_is_between := p1.choose_spec.bindsN fun _ _ _ _ _ _ us hl => match us, hl with | [_, _, _], _ => rfl, g_is_between := He.glo_ok X G (c.1.fact 1 (f := .glo "is_between") rfl),
    f_check_number := _, fd_check_number := p2.choose, F_check_number := p2.choose_spec, b_check_number := p2.choose_spec.bindsN fun _ _ _ _ _ _ us hl => match us, hl with | [_, _, _], _ => rfl, g_check_number := He.glo_ok X G (c.1.fact 2 (f := .glo "check_number") rfl),
    f_check_folds := _, fd_check_folds := p3.choose, F_check_folds := p3.choose_spec, b_check_folds := p3.choose_spec.bindsN fun _ _ _ _ _ _ us hl => match us, hl with | [_], _ => rfl, g_check_folds := He.glo_ok X G (c.1.fact 3 (f := .glo "check_folds") rfl),
    f_raw_price := _, fd_raw_price := p4.choose, F_raw_price := p4.choose_spec, b_raw_price := p4.choose_spec.bindsN fun _ _ _ _ _ _ us hl => match us, hl with | [_, _], _ => rfl, g_raw_price := He.glo_ok X G (c.1.fact 4 (f := .glo "raw_price") rfl),
    f_high_bits := _, fd_high_bits := p5.choose, F_high_bits := p5.choose_spec, b_high_bits := p5.choose_spec.bindsN fun _ _ _ _ _ _ us hl => match us, hl with | [_], _ => rfl, g_high_bits := He.glo_ok X G (c.1.fact 5 (f := .glo "high_bits") rfl),
    f_told_least := _, fd_told_least := p6.choose, F_told_least := p6.choose_spec, b_told_least := p6.choose_spec.bindsN fun _ _ _ _ _ _ us hl => match us, hl with | [_], _ => rfl, g_told_least := He.glo_ok X G (c.1.fact 6 (f := .glo "told_least") rfl),
    f_check_cutting := _, fd_check_cutting := p7.choose, F_check_cutting := p7.choose_spec, b_check_cutting := p7.choose_spec.bindsN fun _ _ _ _ _ _ us hl => match us, hl with | [_, _, _, _], _ => rfl, g_check_cutting := He.glo_ok X G (c.1.fact 7 (f := .glo "check_cutting") rfl),
    f_sums_ahead := _, fd_sums_ahead := p8.choose, F_sums_ahead := p8.choose_spec, b_sums_ahead := p8.choose_spec.bindsN fun _ _ _ _ _ _ us hl => match us, hl with | [_], _ => rfl, g_sums_ahead := He.glo_ok X G (c.1.fact 8 (f := .glo "sums_ahead") rfl),
    f_ways_of := _, fd_ways_of := p9.choose, F_ways_of := p9.choose_spec, b_ways_of := p9.choose_spec.bindsN fun _ _ _ _ _ _ us hl => match us, hl with | [_, _], _ => rfl, g_ways_of := He.glo_ok X G (c.1.fact 9 (f := .glo "ways_of") rfl),
    f_gone_along := _, fd_gone_along := p10.choose, F_gone_along := p10.choose_spec, b_gone_along := p10.choose_spec.bindsN fun _ _ _ _ _ _ us hl => match us, hl with | [_, _, _, _], _ => rfl, g_gone_along := He.glo_ok X G (c.1.fact 10 (f := .glo "gone_along") rfl),
    f_least_cuts := _, fd_least_cuts := p11.choose, F_least_cuts := p11.choose_spec, b_least_cuts := nil_binds (p11.choose_spec.binds1 (ps := ["folds", "few", "cost", "bits"]) 4 1 (by simp [He.DefD.dvs, d_least_cuts]) rfl fun _ _ _ _ _ _ _ us its h1 h2 => match us, its, h1, h2 with | [_, _, _, _], [_], _, _ => ⟨_, rfl, rfl⟩), e0_least_cuts := (p11.choose_spec.binds1 (ps := ["folds", "few", "cost", "bits"]) 3 0 (by simp [He.DefD.dvs, d_least_cuts]) rfl fun _ _ _ _ _ _ _ us its h1 h2 => match us, its, h1, h2 with | [_, _, _], [_], _, _ => ⟨_, rfl, rfl⟩).choose, v0_least_cuts := (p11.choose_spec.binds1 (ps := ["folds", "few", "cost", "bits"]) 3 0 (by simp [He.DefD.dvs, d_least_cuts]) rfl fun _ _ _ _ _ _ _ us its h1 h2 => match us, its, h1, h2 with | [_, _, _], [_], _, _ => ⟨_, rfl, rfl⟩).choose_spec.1, b0_least_cuts := (p11.choose_spec.binds1 (ps := ["folds", "few", "cost", "bits"]) 3 0 (by simp [He.DefD.dvs, d_least_cuts]) rfl fun _ _ _ _ _ _ _ us its h1 h2 => match us, its, h1, h2 with | [_, _, _], [_], _, _ => ⟨_, rfl, rfl⟩).choose_spec.2, g_least_cuts := He.glo_ok X G (c.1.fact 11 (f := .glo "least_cuts") rfl),
    f_are_cuts := _, fd_are_cuts := p12.choose, F_are_cuts := p12.choose_spec, b_are_cuts := p12.choose_spec.bindsN fun _ _ _ _ _ _ us hl => match us, hl with | [_, _, _, _], _ => rfl, g_are_cuts := He.glo_ok X G (c.1.fact 12 (f := .glo "are_cuts") rfl),
    f_cost_of := _, fd_cost_of := p13.choose, F_cost_of := p13.choose_spec, b_cost_of := p13.choose_spec.bindsN fun _ _ _ _ _ _ us hl => match us, hl with | [_, _, _, _], _ => rfl, g_cost_of := He.glo_ok X G (c.1.fact 13 (f := .glo "cost_of") rfl),
    f_prices_hold := _, fd_prices_hold := p14.choose, F_prices_hold := p14.choose_spec, b_prices_hold := p14.choose_spec.bindsN fun _ _ _ _ _ _ us hl => match us, hl with | [_, _, _, _, _], _ => rfl, g_prices_hold := He.glo_ok X G (c.1.fact 14 (f := .glo "prices_hold") rfl),
    f_is_cuts_paper := _, fd_is_cuts_paper := p15.choose, F_is_cuts_paper := p15.choose_spec, b_is_cuts_paper := p15.choose_spec.bindsN fun _ _ _ _ _ _ us hl => match us, hl with | [_, _, _, _, _], _ => rfl, g_is_cuts_paper := He.glo_ok X G (c.1.fact 15 (f := .glo "is_cuts_paper") rfl),
    f_least_stretch := _, fd_least_stretch := p16.choose, F_least_stretch := p16.choose_spec, b_least_stretch := p16.choose_spec.bindsN fun _ _ _ _ _ _ us hl => match us, hl with | [_, _], _ => rfl, g_least_stretch := He.glo_ok X G (c.1.fact 16 (f := .glo "least_stretch") rfl),
    f_how_many_cuts := _, fd_how_many_cuts := p17.choose, F_how_many_cuts := p17.choose_spec, b_how_many_cuts := nil_binds (p17.choose_spec.binds1 (ps := ["folds", "few", "cost", "bits"]) 4 1 (by simp [He.DefD.dvs, d_how_many_cuts]) rfl fun _ _ _ _ _ _ _ us its h1 h2 => match us, its, h1, h2 with | [_, _, _, _], [_], _, _ => ⟨_, rfl, rfl⟩), e0_how_many_cuts := (p17.choose_spec.binds1 (ps := ["folds", "few", "cost", "bits"]) 3 0 (by simp [He.DefD.dvs, d_how_many_cuts]) rfl fun _ _ _ _ _ _ _ us its h1 h2 => match us, its, h1, h2 with | [_, _, _], [_], _, _ => ⟨_, rfl, rfl⟩).choose, v0_how_many_cuts := (p17.choose_spec.binds1 (ps := ["folds", "few", "cost", "bits"]) 3 0 (by simp [He.DefD.dvs, d_how_many_cuts]) rfl fun _ _ _ _ _ _ _ us its h1 h2 => match us, its, h1, h2 with | [_, _, _], [_], _, _ => ⟨_, rfl, rfl⟩).choose_spec.1, b0_how_many_cuts := (p17.choose_spec.binds1 (ps := ["folds", "few", "cost", "bits"]) 3 0 (by simp [He.DefD.dvs, d_how_many_cuts]) rfl fun _ _ _ _ _ _ _ us its h1 h2 => match us, its, h1, h2 with | [_, _, _], [_], _, _ => ⟨_, rfl, rfl⟩).choose_spec.2, g_how_many_cuts := He.glo_ok X G (c.1.fact 17 (f := .glo "how_many_cuts") rfl),
    f_law_cell := _, fd_law_cell := p18.choose, F_law_cell := p18.choose_spec, b_law_cell := p18.choose_spec.bindsN fun _ _ _ _ _ _ us hl => match us, hl with | [_, _], _ => rfl, g_law_cell := He.glo_ok X G (c.1.fact 18 (f := .glo "_law_cell") rfl),
    f_law_hash := _, fd_law_hash := p19.choose, F_law_hash := p19.choose_spec, b_law_hash := p19.choose_spec.bindsN fun _ _ _ _ _ _ us hl => match us, hl with | [_, _], _ => rfl, g_law_hash := He.glo_ok X G (c.1.fact 19 (f := .glo "_law_hash") rfl),
    f_law_generator := _, fd_law_generator := p20.choose, F_law_generator := p20.choose_spec, b_law_generator := p20.choose_spec.bindsN fun _ _ _ _ _ _ us hl => match us, hl with | [_, _], _ => rfl, g_law_generator := He.glo_ok X G (c.1.fact 20 (f := .glo "_law_generator") rfl),
    f_law_random := _, fd_law_random := p21.choose, F_law_random := p21.choose_spec, b_law_random := p21.choose_spec.bindsN fun _ _ _ _ _ _ us hl => match us, hl with | [_, _], _ => rfl, g_law_random := He.glo_ok X G (c.1.fact 21 (f := .glo "_law_random") rfl),
    f_law_price := _, fd_law_price := p22.choose, F_law_price := p22.choose_spec, b_law_price := p22.choose_spec.bindsN fun _ _ _ _ _ _ us hl => match us, hl with | [_, _], _ => rfl, g_law_price := He.glo_ok X G (c.1.fact 22 (f := .glo "_law_price") rfl),
    f_law_stretch := _, fd_law_stretch := p23.choose, F_law_stretch := p23.choose_spec, b_law_stretch := p23.choose_spec.bindsN fun _ _ _ _ _ _ us hl => match us, hl with | [_, _], _ => rfl, g_law_stretch := He.glo_ok X G (c.1.fact 23 (f := .glo "_law_stretch") rfl),
    f_law_lengths := _, fd_law_lengths := p24.choose, F_law_lengths := p24.choose_spec, b_law_lengths := p24.choose_spec.bindsN fun _ _ _ _ _ _ us hl => match us, hl with | [_, _], _ => rfl, g_law_lengths := He.glo_ok X G (c.1.fact 24 (f := .glo "_law_lengths") rfl),
    f_law_all_costs := _, fd_law_all_costs := p25.choose, F_law_all_costs := p25.choose_spec, b_law_all_costs := p25.choose_spec.bindsN fun _ _ _ _ _ _ us hl => match us, hl with | [_, _, _, _], _ => rfl, g_law_all_costs := He.glo_ok X G (c.1.fact 25 (f := .glo "_law_all_costs") rfl),
    f_law_whole := _, fd_law_whole := p26.choose, F_law_whole := p26.choose_spec, b_law_whole := p26.choose_spec.bindsN fun _ _ _ _ _ _ us hl => match us, hl with | [_, _], _ => rfl, g_law_whole := He.glo_ok X G (c.1.fact 26 (f := .glo "_law_whole") rfl),
    f_law_cuts_cost := _, fd_law_cuts_cost := p27.choose, F_law_cuts_cost := p27.choose_spec, b_law_cuts_cost := p27.choose_spec.bindsN fun _ _ _ _ _ _ us hl => match us, hl with | [_, _, _, _, _], _ => rfl, g_law_cuts_cost := He.glo_ok X G (c.1.fact 27 (f := .glo "_law_cuts_cost") rfl),
    f_law_prices_hold := _, fd_law_prices_hold := p28.choose, F_law_prices_hold := p28.choose_spec, b_law_prices_hold := p28.choose_spec.bindsN fun _ _ _ _ _ _ us hl => match us, hl with | [_, _, _, _, _], _ => rfl, g_law_prices_hold := He.glo_ok X G (c.1.fact 28 (f := .glo "_law_prices_hold") rfl),
    f_law_paper := _, fd_law_paper := p29.choose, F_law_paper := p29.choose_spec, b_law_paper := p29.choose_spec.bindsN fun _ _ _ _ _ _ us hl => match us, hl with | [_, _, _, _, _], _ => rfl, g_law_paper := He.glo_ok X G (c.1.fact 29 (f := .glo "_law_paper") rfl),
    f_law_bent := _, fd_law_bent := p30.choose, F_law_bent := p30.choose_spec, b_law_bent := p30.choose_spec.bindsN fun _ _ _ _ _ _ us hl => match us, hl with | [_, _, _], _ => rfl, g_law_bent := He.glo_ok X G (c.1.fact 30 (f := .glo "_law_bent") rfl),
    f_law_small_right := _, fd_law_small_right := p31.choose, F_law_small_right := p31.choose_spec, b_law_small_right := p31.choose_spec.bindsN fun _ _ _ _ _ _ us hl => match us, hl with | [_, _, _, _, _], _ => rfl, g_law_small_right := He.glo_ok X G (c.1.fact 31 (f := .glo "_law_small_right") rfl),
    f_law_long := _, fd_law_long := p32.choose, F_law_long := p32.choose_spec, b_law_long := p32.choose_spec.bindsN fun _ _ _ _ _ _ us hl => match us, hl with | [_], _ => rfl, g_law_long := He.glo_ok X G (c.1.fact 32 (f := .glo "_law_long") rfl),
    f_law := _, fd_law := p33.choose, F_law := p33.choose_spec, b_law := p33.choose_spec.bindsN fun _ _ _ _ _ _ us hl => match us, hl with | [_], _ => rfl, g_law := He.glo_ok X G (c.1.fact 33 (f := .glo "law") rfl),
    f_Way___init__ := _, fd_Way___init__ := p34.choose, F_Way___init__ := p34.choose_spec, b_Way___init__ := p34.choose_spec.bindsN fun _ _ _ _ _ _ us hl => match us, hl with | [_, _, _, _], _ => rfl, me_Way___init__ := He.meth_ok (c.1.fact 54 (f := .meth "Way" "__init__") rfl), mk_Way := He.mkr_ok (c.1.fact 53 (f := .mkr "Way") rfl),
    f_Way_passed := _, fd_Way_passed := p35.choose, F_Way_passed := p35.choose_spec, b_Way_passed := p35.choose_spec.bindsN fun _ _ _ _ _ _ us hl => match us, hl with | [_, _], _ => rfl, me_Way_passed := He.meth_ok (c.1.fact 55 (f := .meth "Way" "passed") rfl),
    f_Way_begin := _, fd_Way_begin := p36.choose, F_Way_begin := p36.choose_spec, b_Way_begin := p36.choose_spec.bindsN fun _ _ _ _ _ _ us hl => match us, hl with | [_, _, _], _ => rfl, me_Way_begin := He.meth_ok (c.1.fact 56 (f := .meth "Way" "begin") rfl),
    f_Way_least := _, fd_Way_least := p37.choose, F_Way_least := p37.choose_spec, b_Way_least := p37.choose_spec.bindsN fun _ _ _ _ _ _ us hl => match us, hl with | [_, _], _ => rfl, me_Way_least := He.meth_ok (c.1.fact 57 (f := .meth "Way" "least") rfl),
    n_len := He.free_ok X G (c.1.fact 34 (f := .free "len") rfl),
    n_sum := He.free_ok X G (c.1.fact 35 (f := .free "sum") rfl),
    n_max := He.free_ok X G (c.1.fact 36 (f := .free "max") rfl),
    n_min := He.free_ok X G (c.1.fact 37 (f := .free "min") rfl),
    n_int := He.free_ok X G (c.1.fact 38 (f := .free "int") rfl),
    n_bool := He.free_ok X G (c.1.fact 39 (f := .free "bool") rfl),
    n_list := He.free_ok X G (c.1.fact 40 (f := .free "list") rfl),
    n_tuple := He.free_ok X G (c.1.fact 41 (f := .free "tuple") rfl),
    n_range := He.free_ok X G (c.1.fact 42 (f := .free "range") rfl),
    n_isinstance := He.free_ok X G (c.1.fact 43 (f := .free "isinstance") rfl),
    n_repr := He.free_ok X G (c.1.fact 44 (f := .free "repr") rfl),
    t_MOST_WIDTH := q0.choose, m_MOST_WIDTH := q0.choose_spec }
end My

namespace My
open PySem PySem.Spec PyProof.Rows L2 Pre
theorem _root_.L2.TyX.same {K : PySem.W.Frag} {H H' : Hp} {v : V} {t : Value} (s : Same H H') (h : TyX K H v t) : TyX K H' v t := by
  cases h with
  | base b => exact .base (by
    cases b with
    | non => exact .non
    | bl y => exact .bl y
    | int i => exact .int i
    | str y => exact .str y
    | flt y => exact .flt y
    | lst e => exact .lst (s _ _ e)
    | frz e => exact .frz (s _ _ e)
    | tup e => exact .tup (s _ _ e)
    | dK e => exact .dK (s _ _ e)
    | dT e => exact .dT (s _ _ e)
    | ins e cl ha hn htk hm => exact .ins (s _ _ e) cl ha hn htk hm)
  | byt b => exact .byt b
  | set e => exact .set (s _ _ e)
  | kList e c => exact .kList e c
  | kTuple e c => exact .kTuple e c
  | kDict e c => exact .kDict e c
  | fTuple e => exact .fTuple (s _ _ e)
  | fDict e => exact .fDict (s _ _ e)
end My

namespace My
open PySem PySem.Spec PyProof.Rows L2 Pre
/-! ### whole numbers, and what is none -/
/-- what is no whole number -/
def BadN (K : PySem.W.Frag) (H : Hp) (v : V) : Prop := (∃ b : Bool, v = .bl b) ∨ ∃ T : String, TyX K H v (.type T) ∧ kitB T "int" = some false
def NumV (K : PySem.W.Frag) (H : Hp) (v : V) (lo : Int) (hi : Option Int) (b : Bool) : Prop := (∃ i : Int, v = .int i ∧ b = decide (lo ≤ i ∧ ∀ j, hi = some j → i ≤ j)) ∨ (BadN K H v ∧ b = false)
theorem BadN.same {K : PySem.W.Frag} {H H' : Hp} {v : V} (s : Same H H') (h : BadN K H v) : BadN K H' v := by
  rcases h with h | ⟨T, ty, e⟩
  · exact .inl h
  · exact .inr ⟨T, ty.same s, e⟩
theorem NumV.same {K : PySem.W.Frag} {H H' : Hp} {v : V} {lo : Int} {hi : Option Int} {b : Bool} (s : Same H H') (h : NumV K H v lo hi b) : NumV K H' v lo hi b := by
  rcases h with h | ⟨h, e⟩
  · exact .inl h
  · exact .inr ⟨h.same s, e⟩
/-- a bound: a number or None -/
def hiV : Option Int → V
  | some j => .int j
  | none => .non
local macro_rules | `(tactic| walk_at "go") => `(tactic| repeat (first | (with_reducible first | refine iteT ?_ | refine iteF ?_ | refine iteNtt ?_ | refine iteNff ?_ | refine iteET (by omega) ?_ | refine iteEF (by omega) ?_ | refine iteENT (by omega) ?_ | refine iteENF (by omega) ?_ | refine iteDT (by omega) ?_ | refine iteDF (by omega) ?_ | refine iteNT (by omega) ?_ | refine iteNF (by omega) ?_) | refine ⟨_, rfl, ?_⟩ | refine ⟨_, _, rfl, rfl, ?_⟩ | refine ⟨_, _, rfl, ?_⟩ | refine ⟨rfl, ?_⟩ | refine .inl ⟨_, rfl, ?_⟩ | refine .inr ⟨_, rfl, ?_⟩))
local macro_rules | `(tactic| walk_at "b") => `(tactic| try dsimp (config := { proj := false, iota := false, eta := false, zeta := false }) only)
section
variable {P : Program} {w : World} {K : PySem.W.Frag} {mg : Str → Option Value} {base : Heap}
def sp_is_whole (K : PySem.W.Frag) : Sp := fun vs H Q _ => ∃ v : V, vs = [v] ∧ ((∃ i : Int, v = .int i ∧ Q (.bl true) H) ∨ (BadN K H v ∧ Q (.bl false) H))
theorem G_is_whole (T : Top K mg) : FnOk P w K mg base CX0 1 T.f_is_whole T.fd_is_whole ["value"] (sp_is_whole K) := by
  refine T.F_is_whole.ok sc_is_whole (fun vs H Q E h => by obtain ⟨v, rfl, _⟩ := h; rfl) (fun cdv A outer s H vs Q E hr h => ?_)
  obtain ⟨v, rfl, h⟩ := h
  refine ⟨_, PSs.nox (pss_one (ps_ret (pe_and (pe_callB (k_isi K rfl) (by rfl) T.n_isinstance (by decide +kernel) (pa_cons (pv 0) (pa_cons (pe_bltn (v := .ty "int") (by rfl) T.n_int (by decide +kernel) rfl) pa_nil))) (pe_one (pe_not (pe_callB (k_isi K rfl) (by rfl) T.n_isinstance (by decide +kernel) (pa_cons (pv 0) (pa_cons (pe_bltn (v := .ty "bool") (by rfl) T.n_bool (by decide +kernel) rfl) pa_nil)))))))), ?_⟩
  rcases h with ⟨i, rfl, q⟩ | ⟨⟨b, rfl⟩ | ⟨T, ty, hT⟩, q⟩
  · refine ⟨_, rfl, _, _, _, _, true, rfl, .ty _, .base (.int i), kit_ty (by decide +kernel), true, rfl, iteT ?_⟩
    exact ⟨_, rfl, _, _, _, _, false, rfl, .ty _, .base (.int i), kit_ty (by decide +kernel), false, rfl, q⟩
  · refine ⟨_, rfl, _, _, _, _, true, rfl, .ty _, .base (.bl b), kit_ty (by decide +kernel), true, rfl, iteT ?_⟩
    exact ⟨_, rfl, _, _, _, _, true, rfl, .ty _, .base (.bl b), kit_ty (by decide +kernel), true, rfl, q⟩
  · exact ⟨_, rfl, _, _, _, _, false, rfl, .ty _, ty, kit_ty hT, false, rfl, iteF q⟩
def sp_is_between (K : PySem.W.Frag) : Sp := fun vs H Q _ => ∃ (v : V) (lo : Int) (hi : Option Int) (b : Bool), vs = [v, .int lo, hiV hi] ∧ NumV K H v lo hi b ∧ Q (.bl b) H
theorem G_is_between (T : Top K mg) : FnOk P w K mg base CX0 2 T.f_is_between T.fd_is_between ["value", "low", "high"] (sp_is_between K) := by
  refine T.F_is_between.ok sc_is_between (fun vs H Q E h => by obtain ⟨v, lo, hi, b, rfl, _⟩ := h; rfl) (fun cdv A outer s H vs Q E hr h => ?_)
  obtain ⟨v, lo, hi, b, rfl, hv, q⟩ := h
  refine ⟨_, PSs.nox (pss_one (ps_ret (pe_and (pe_call (G_is_whole T) (hr.mono (by decide)) (by rfl) T.g_is_whole T.F_is_whole.kp T.b_is_whole .nil pass0 (pa_cons (pv 0) pa_nil)) (pe_and (pe_cmpR op_le (pv 1) (pv 0) (nomark _)) (pe_one (pe_or (pe_cmpR op_isN (pv 2) pe_non (nomark _)) (pe_one (pe_cmpR op_le (pv 0) (pv 2) (nomark _))))))))), ?_⟩
  rcases hv with ⟨i, rfl, rfl⟩ | ⟨hv, rfl⟩
  · refine ⟨_, rfl, _, rfl, .inl ⟨i, rfl, true, rfl, iteT ?_⟩⟩
    refine ⟨_, rfl, _, rfl, _, _, rfl, rfl, _, rfl, ite2 (fun e => ?_) (fun e => ?_)⟩
    · have e1 : lo ≤ i := of_decide_eq_true e
      cases hi with
      | none =>
        refine ⟨_, rfl, rfl, _, rfl, iteT ?_⟩
        rw [decide_eq_true ⟨e1, fun j h => nomatch h⟩] at q
        exact q
      | some j =>
        refine ⟨_, rfl, rfl, _, rfl, iteF ⟨_, rfl, _, rfl, _, _, rfl, rfl, ?_⟩⟩
        have e2 : decide (lo ≤ i ∧ ∀ j', some j = some j' → i ≤ j') = decide (i ≤ j) := by
          by_cases h : i ≤ j
          · rw [decide_eq_true h, decide_eq_true]
            exact ⟨e1, fun j' e => by cases e; exact h⟩
          · rw [decide_eq_false h, decide_eq_false]
            exact fun z => h (z.2 j rfl)
        rw [e2] at q
        exact q
    · have e1 : ¬ lo ≤ i := fun h => e (decide_eq_true h)
      rw [decide_eq_false fun z => e1 z.1] at q
      exact q
  · exact ⟨_, rfl, _, rfl, .inr ⟨hv, false, rfl, iteF q⟩⟩
end
end My

set_option exponentiation.threshold 100000
namespace My
open PySem PySem.Spec PyProof.Rows L2 Pre
section
variable {P : Program} {w : World} {K : PySem.W.Frag} {mg : Str → Option Value} {base : Heap}
/-! ### the law's draws -/
/-- a generator: its count is at most n -/
def GenAt (H : Hp) (g : Addr) (n : Nat) : Prop := ∃ x y z : Int, H g = some (.lst [.int x, .int y, .int z]) ∧ 0 ≤ z ∧ z ≤ (n : Int)
/-- all but one thing stand as they stood -/
def But (g : Addr) (H H' : Hp) : Prop := ∀ b o, b ≠ g → H b = some o → H' b = some o
theorem But.refl {g : Addr} {H : Hp} : But g H H := fun _ _ _ h => h
theorem But.trans {g : Addr} {H H1 H2 : Hp} (a : But g H H1) (b : But g H1 H2) : But g H H2 := fun c o n h => b c o n (a c o n h)
theorem But.same {g : Addr} {H H1 H2 : Hp} (a : But g H H1) (b : Same H1 H2) : But g H H2 := fun c o n h => b c o (a c o n h)
theorem But.of {g : Addr} {H H1 : Hp} (b : Same H H1) : But g H H1 := fun c o _ h => b c o h
theorem But.upd {g : Addr} {H H1 : Hp} {o : HO} (a : But g H H1) : But g H (upd H1 g o) := fun c u n h => by
  rw [upd_ne n]
  exact a c u n h
theorem But.free {g : Addr} {H H1 : Hp} (a : But g H H1) {p : Addr} (n : p ≠ g) (h : H1 p = none) : H p = none := by
  cases e : H p with
  | none => rfl
  | some o => rw [a p o n e] at h; cases h
/-- what is changed was not there at first -/
theorem But.fresh {g : Addr} {H H1 H2 : Hp} (s : Same H H1) (n : H g = none) (b : But g H1 H2) : Same H H2 := fun c o h => b c o (ne_of_none h n) (s c o h)
theorem GenAt.mono {H : Hp} {g : Addr} {n m : Nat} (h : GenAt H g n) (l : n ≤ m) : GenAt H g m := by
  obtain ⟨x, y, z, a, b, c⟩ := h
  exact ⟨x, y, z, a, b, by omega⟩
theorem GenAt.same {H H' : Hp} {g : Addr} {n : Nat} (h : GenAt H g n) (s : Same H H') : GenAt H' g n := by
  obtain ⟨x, y, z, a, b⟩ := h
  exact ⟨x, y, z, s _ _ a, b⟩
theorem GenAt.ne {H : Hp} {g : Addr} {n : Nat} {p : Addr} (h : GenAt H g n) (np : H p = none) : p ≠ g := by
  obtain ⟨x, y, z, a, _⟩ := h
  exact (ne_of_none a np).symm
theorem small_2900 {b : Int} (h : b ≤ 2 ^ 60) : b < 2 ^ 2900 := by omega
theorem pow_pos' (w : Nat) : (0 : Int) < 2 ^ w := Int.pow_pos (by decide)
theorem pow2_le {k m : Nat} (h : k ≤ m) : (2 : Int) ^ k ≤ 2 ^ m := by
  have e := Nat.pow_le_pow_right (show 0 < 2 by decide) h
  have e2 : ((2 ^ k : Nat) : Int) ≤ ((2 ^ m : Nat) : Int) := Int.ofNat_le.mpr e
  rw [Int.natCast_pow, Int.natCast_pow] at e2
  exact e2
def sp_law_cell (K : PySem.W.Frag) : Sp := fun vs H Q _ => ∃ (a : Addr) (ns : List Int) (i : Nat), vs = [.ref a, .int i] ∧ SqL K H a (ns.map V.int) ∧ ∀ (n : Int) H', Same H H' → Q (.int n) H'
theorem G_law_cell (T : Top K mg) : FnOk P w K mg base CX0 1 T.f_law_cell T.fd_law_cell ["_law_script", "_law_index"] (sp_law_cell K) := by
  refine T.F_law_cell.ok sc_law_cell (fun vs H Q E h => by obtain ⟨a, ns, i, rfl, _⟩ := h; rfl) (fun cdv A outer s H vs Q E hr h => ?_)
  obtain ⟨a, ns, i, rfl, hS, q⟩ := h
  refine ⟨_, PSs.nox (pss_cons (ps_if (pt_cmpR op_lt (pv 1) (pe_callB (k_len K rfl) (by rfl) T.n_len (by decide +kernel) (pa_cons (pv 0) pa_nil)) (nomark _))
    (pss_one (ps_ret (pe_ix (k_ixL K rfl) (pv 0) (pv 1) (fun _ _ => rfl))))
    pss_nil)
  (pss_one (ps_ret (pe_op op_mod (pe_callB (k_sum K rfl rfl) (by rfl) T.n_sum (by decide +kernel) (pa_cons (pe_slice (k_slL K rfl) (pv 0) po_none (po_some pe_int)) pa_nil)) pe_int)))), ?_⟩
  refine ⟨_, rfl, _, rfl, a, _, rfl, .inl hS, _, _, rfl, rfl, _, rfl, ite2 (fun e => ?_) (fun e => ?_)⟩
  · have e1 : (i : Int) < (((ns.map V.int).length : Nat) : Int) := of_decide_eq_true e
    rw [List.length_map] at e1
    have hi : i < ns.length := by omega
    refine ⟨_, rfl, _, rfl, a, _, _, .int ns[i], rfl, rfl, hS, atI_nat (by rw [List.getElem?_map, List.getElem?_eq_getElem hi]; rfl), ?_⟩
    exact q _ _ (Same.refl _)
  · refine ⟨_, rfl, _, rfl, a, _, rfl, hS, fun p np => ?_⟩
    have ec : ∃ ms : List Int, cutV (ns.map V.int) none (some 1) = ms.map V.int := by
      unfold cutV
      exact ⟨(ns.drop (HT.sIx (ns.map V.int).length 0 none)).take (HT.sIx (ns.map V.int).length (ns.map V.int).length (some 1) - HT.sIx (ns.map V.int).length 0 none), by rw [List.map_take, List.map_drop]⟩
    obtain ⟨ms, em⟩ := ec
    refine ⟨p, ms, rfl, .inl (.inl (by rw [upd_same, em])), _, _, rfl, rfl, (by show (0 : Int) < 1000003; decide), ?_⟩
    exact q _ _ (same_upd np)
theorem cmul_mod (x m j : Int) (h0 : 0 < m) (h1 : m ≤ 2 ^ 60) : CMul (x % m) j := by
  have a := Int.emod_nonneg x (show m ≠ 0 by omega)
  have b := Int.emod_lt_of_pos x h0
  exact .inl ⟨by omega, by omega⟩
def sp_law_hash : Sp := fun vs H Q _ => ∃ i j : Int, vs = [.int i, .int j] ∧ 0 ≤ j ∧ j < 2 ^ 60 ∧ ∀ n : Int, Q (.int n) H
theorem G_law_hash (T : Top K mg) : FnOk P w K mg base CX0 1 T.f_law_hash T.fd_law_hash ["_law_seed", "_law_index"] sp_law_hash := by
  refine T.F_law_hash.ok sc_law_hash (fun vs H Q E h => by obtain ⟨i, j, rfl, _⟩ := h; rfl) (fun cdv A outer s H vs Q E hr h => ?_)
  obtain ⟨i, j, rfl, h0, h1, q⟩ := h
  refine ⟨_, PSs.nox (pss_cons (ps_set (i := 2) sc_law_hash.nd rfl (by first | exact Or.inl rfl | exact Or.inr rfl) (pe_op op_mod (pe_callTy call_int1 (by rfl) T.n_int (by decide +kernel) (pa_cons (pe_op op_add (pe_op op_add (pe_op op_add (pe_op op_mul (pv 0) pe_int) (pe_op op_mul (pe_op op_mul pe_int (pv 1)) (pv 1))) (pe_op op_mul pe_int (pv 1))) pe_int) pa_nil)) pe_int))
  (pss_cons (ps_set (i := 2) sc_law_hash.nd rfl (by first | exact Or.inl rfl | exact Or.inr rfl) (pe_op op_mod (pe_callTy call_int1 (by rfl) T.n_int (by decide +kernel) (pa_cons (pe_op op_add (pe_op op_add (pe_op op_mul (pv 2) (pv 2)) (pe_op op_mul pe_int (pv 1))) pe_int) pa_nil)) pe_int))
  (pss_one (ps_ret (pe_op op_mod (pe_callTy call_int1 (by rfl) T.n_int (by decide +kernel) (pa_cons (pe_op op_mul (pv 2) pe_int) pa_nil)) pe_int))))), ?_⟩
  refine ⟨_, rfl, _, _, rfl, rfl, .inr ⟨by decide, by decide⟩, _, rfl, _, _, rfl, rfl, .inl ⟨by decide, by decide⟩, _, rfl, _, _, rfl, rfl, .inr ⟨by omega, by omega⟩, _, _, rfl, rfl, _, rfl, _, _, rfl, rfl, .inl ⟨by decide, by decide⟩, _, _, rfl, rfl, _, _, rfl, rfl,
    .inl ⟨_, rfl, _, _, rfl, rfl, (by show (0 : Int) < _; decide), ?_⟩⟩
  refine ⟨_, rfl, _, rfl, _, _, rfl, rfl, cmul_mod _ _ _ (by decide) (by decide), _, rfl, _, _, rfl, rfl, .inl ⟨by decide, by decide⟩, _, _, rfl, rfl, _, _, rfl, rfl, .inl ⟨_, rfl, _, _, rfl, rfl, (by show (0 : Int) < _; decide), ?_⟩⟩
  refine ⟨_, rfl, _, _, rfl, rfl, .inr ⟨by decide, by decide⟩, .inl ⟨_, rfl, _, _, rfl, rfl, (by show (0 : Int) < _; decide), ?_⟩⟩
  exact q _

def sp_law_generator (K : PySem.W.Frag) : Sp := fun vs H Q _ => ∃ (a : Addr) (ns : List Int) (i : Nat), vs = [.ref a, .int i] ∧ SqL K H a (ns.map V.int) ∧ ∀ H' g, Same H H' → H g = none → GenAt H' g (1000 * i) → Q (.ref g) H'
theorem G_law_generator (T : Top K mg) : FnOk P w K mg base CX0 2 T.f_law_generator T.fd_law_generator ["_law_script", "_law_index"] (sp_law_generator K) := by
  refine T.F_law_generator.ok sc_law_generator (fun vs H Q E h => by obtain ⟨a, ns, i, rfl, _⟩ := h; rfl) (fun cdv A outer s H vs Q E hr h => ?_)
  obtain ⟨a, ns, i, rfl, hS, q⟩ := h
  refine ⟨_, PSs.nox (pss_cons (ps_set (i := 2) sc_law_generator.nd rfl (by first | exact Or.inl rfl | exact Or.inr rfl) (pe_call (G_law_cell T) (hr.mono (by decide)) (by rfl) T.g_law_cell T.F_law_cell.kp T.b_law_cell .nil pass0 (pa_cons (pv 0) (pa_cons (pv 1) pa_nil))))
  (pss_one (ps_ret (pe_lst (pa_cons (pe_op op_mod (pe_callTy call_int1 (by rfl) T.n_int (by decide +kernel) (pa_cons (pe_callB (call_max2 rfl) (by rfl) T.n_max (by decide +kernel) (pa_cons (pe_op op_sub (pv 2) (pe_op op_powW pe_int pe_int)) (pa_cons pe_int pa_nil))) pa_nil)) (pe_op op_powW (pe_op op_powW pe_int pe_int) pe_int)) (pa_cons (pe_op op_mod (pe_callTy call_int1 (by rfl) T.n_int (by decide +kernel) (pa_cons (pv 2) pa_nil)) pe_int) (pa_cons (pe_op op_mul pe_int (pv 1)) pa_nil))))))), ?_⟩
  refine ⟨_, rfl, _, rfl, a, ns, i, rfl, hS, fun n H1 s1 => ?_⟩
  refine ⟨_, rfl, _, _, rfl, rfl, ⟨by decide, by decide +kernel⟩, _, _, rfl, rfl, _, _, rfl, .inl ⟨_, rfl, _, _, rfl, rfl, ⟨by decide, by decide +kernel⟩, _, _, rfl, rfl, ⟨by decide, by decide +kernel⟩, _, _, rfl, rfl, (by show (0 : Int) < _; decide +kernel), ?_⟩⟩
  refine ⟨_, rfl, .inl ⟨_, rfl, _, _, rfl, rfl, (by show (0 : Int) < _; decide), ?_⟩⟩
  refine ⟨_, rfl, _, _, rfl, rfl, .inl ⟨by decide, by decide⟩, (show 3 ≤ sizeLine by decide), fun g ng => ?_⟩
  exact q _ g (s1.trans (same_upd ng)) (s1.free ng) ⟨_, _, _, upd_same, by omega, by omega⟩
def sp_law_random : Sp := fun vs H Q _ => ∃ (g : Addr) (b : Int) (n : Nat), vs = [.ref g, .int b] ∧ GenAt H g n ∧ n ≤ 10 ^ 12 ∧ 0 < b ∧ b < 2 ^ 2900 ∧ ∀ (d : Int) H', 0 ≤ d → d < b → GenAt H' g (n + 100) → But g H H' → Q (.int d) H'
theorem G_law_random (T : Top K mg) : FnOk P w K mg base CX0 2 T.f_law_random T.fd_law_random ["_law_generator_here", "_law_bound"] sp_law_random := by
  refine T.F_law_random.ok sc_law_random (fun vs H Q E h => by obtain ⟨g, b, n, rfl, _⟩ := h; rfl) (fun cdv A outer s H vs Q E hr h => ?_)
  obtain ⟨g, b, n, rfl, ⟨x, y, z, hg, z0, z1⟩, hn, b0, b1, q⟩ := h
  refine ⟨_, PSs.nox (pss_cons (ps_if (pt_cmpR op_gt (pe_ix (k_ixL K rfl) (pv 0) pe_int (fun _ _ => rfl)) pe_int (nomark _))
    (pss_cons (ps_set (i := 2) sc_law_random.nd rfl (by first | exact Or.inl rfl | exact Or.inr rfl) (pe_op op_mod (pe_callTy call_int1 (by rfl) T.n_int (by decide +kernel) (pa_cons (pe_ix (k_ixL K rfl) (pv 0) pe_int (fun _ _ => rfl)) pa_nil)) (pv 1)))
  (pss_cons (ps_asg (pe_op op_fdivW (pe_ix (k_ixL K rfl) (pv 0) pe_int (fun _ _ => rfl)) (pv 1)) (pg_sub (pv 0) pe_int set_list))
  (pss_one (ps_ret (pv 2)))))
    pss_nil)
  (pss_cons (ps_set (i := 2) sc_law_random.nd rfl (by first | exact Or.inl rfl | exact Or.inr rfl) pe_int)
  (pss_cons (ps_for PassesOwn.never rfl (pi_range1 (by rfl) T.n_range (pa_cons (pe_op op_add pe_int (pe_op op_fdivW (pe_bits (pv 1)) pe_int)) pa_nil)) (pg_name (i := 3) sc_law_random.nd rfl (by first | exact Or.inl rfl | exact Or.inr rfl))
    (pss_cons (ps_asg (pe_op op_add (pe_ix (k_ixL K rfl) (pv 0) pe_int (fun _ _ => rfl)) pe_int) (pg_sub (pv 0) pe_int set_list))
  (pss_one (ps_set (i := 2) sc_law_random.nd rfl (by first | exact Or.inl rfl | exact Or.inr rfl) (pe_op op_add (pe_op op_mul (pv 2) pe_int) (pe_call (G_law_hash T) (hr.mono (by decide)) (by rfl) T.g_law_hash T.F_law_hash.kp T.b_law_hash .nil pass0 (pa_cons (pe_ix (k_ixL K rfl) (pv 0) pe_int (fun _ _ => rfl)) (pa_cons (pe_ix (k_ixL K rfl) (pv 0) pe_int (fun _ _ => rfl)) pa_nil))))))))
  (pss_one (ps_ret (pe_op op_mod (pe_callTy call_int1 (by rfl) T.n_int (by decide +kernel) (pa_cons (pv 2) pa_nil)) (pv 1))))))), ?_⟩
  have a0 : ∀ x y z : Int, atI [V.int x, .int y, .int z] 0 = some (.int x) := fun _ _ _ => rfl
  have a1 : ∀ x y z : Int, atI [V.int x, .int y, .int z] 1 = some (.int y) := fun _ _ _ => rfl
  have a2 : ∀ x y z : Int, atI [V.int x, .int y, .int z] 2 = some (.int z) := fun _ _ _ => rfl
  have hS : SqL K H g [.int x, .int y, .int z] := .inl (.inl hg)
  have nb : b.natAbs < 2 ^ 2900 := by
    have e : ((b.natAbs : Nat) : Int) < ((2 ^ 2900 : Nat) : Int) := by
      rw [Int.natCast_pow]
      omega
    exact Int.ofNat_lt.mp e
  refine ⟨_, rfl, g, _, 0, _, rfl, rfl, hS, a0 x y z, _, _, rfl, rfl, _, rfl, ite2 (fun e => ?_) (fun e => ?_)⟩
  · refine ⟨_, rfl, g, _, 0, _, rfl, rfl, hS, a0 x y z, .inl ⟨_, rfl, _, rfl, _, _, rfl, rfl, b0, ?_⟩⟩
    refine ⟨_, rfl, g, _, 0, _, rfl, rfl, hS, a0 x y z, _, rfl, _, _, rfl, rfl, wide_div b0 nb (by decide) (by decide), _, rfl, g, _, 0, 0, rfl, rfl, hg, rfl, _, rfl, ?_⟩
    exact q _ _ (Int.emod_nonneg _ (by omega)) (Int.emod_lt_of_pos _ b0) ⟨_, _, _, upd_same, z0, by omega⟩ (But.upd But.refl)
  · have hb : Builtin.Int.intBits b ≤ 2900 := PyProof.Rows.intBits_le nb
    have hq0 : (0 : Int) ≤ ((Builtin.Int.intBits b : Nat) : Int) / 30 := Int.ediv_nonneg (Int.natCast_nonneg _) (by decide)
    have hq1 : ((Builtin.Int.intBits b : Nat) : Int) / 30 ≤ 97 := by omega
    refine ⟨_, rfl, _, rfl, _, _, rfl, rfl, ⟨by decide, by decide +kernel⟩, _, _, rfl, rfl, _, rfl, by omega, by omega, ?_⟩
    refine for_range (lo := 0) (n := (1 + ((Builtin.Int.intBits b : Nat) : Int) / 30).toNat) (fun i σ H1 => ∃ (d z' : Int) (v : Option V), σ = [some (.ref g), some (.int b), some (.int d), v] ∧ H1 g = some (.lst [.int x, .int y, .int z']) ∧ 0 ≤ z' ∧ z' ≤ (n : Int) + (i : Int) ∧ But g H H1)
      ⟨0, z, none, rfl, hg, z0, by omega, But.refl⟩ ?_ ?_
    · rintro i σ H1 hi ⟨d, z', v, rfl, hg1, y0, y1, b1⟩
      have hS1 : SqL K H1 g [.int x, .int y, .int z'] := .inl (.inl hg1)
      refine ⟨_, rfl, g, _, 2, _, rfl, rfl, hS1, a2 x y z', _, _, rfl, rfl, _, rfl, g, _, 2, 2, rfl, rfl, hg1, rfl, ?_⟩
      have hS2 : SqL K (upd H1 g (.lst [.int x, .int y, .int (z' + 1)])) g [.int x, .int y, .int (z' + 1)] := .inl (.inl upd_same)
      refine ⟨_, rfl, _, _, rfl, rfl, .inr ⟨by decide, by decide⟩, _, rfl, g, _, 1, _, rfl, rfl, hS2, a1 _ _ _, _, rfl, g, _, 2, _, rfl, rfl, hS2, a2 _ _ _, _, _, rfl, by omega, by omega, fun r => ?_⟩
      exact ⟨_, _, rfl, rfl, _, z' + 1, _, rfl, upd_same, by omega, by omega, But.upd b1⟩
    · rintro σ H1 ⟨d, z', v, rfl, hg1, y0, y1, b1⟩
      refine ⟨_, rfl, .inl ⟨_, rfl, _, rfl, _, _, rfl, rfl, b0, ?_⟩⟩
      exact q _ _ (Int.emod_nonneg _ (by omega)) (Int.emod_lt_of_pos _ b0) ⟨_, _, _, hg1, y0, by omega⟩ b1
/-- a comprehension over a range that draws whole numbers -/
theorem lc_drawR {lo : Int} {n : Nat} {j : Nat} {te : TE} {vs : List Nat} {σ : L2.St} {H1 : Hp} {D : Addr} {Qd : Hp → Prop} (g : Addr) (m step : Nat) (P : Int → Prop) (nD : H1 D = none) (hG : GenAt H1 g m) (hz : n < sizeLine)
    (hw : ∀ x, wipe ((wipe σ vs).set j (some x)) vs = wipe σ vs)
    (hs : ∀ (i : Nat) (H' : Hp), i < n → But g H1 H' → GenAt H' g (m + step * i) → ∀ Qt : V → Hp → Prop, (∀ (y : Int) H'', P y → But g H' H'' → GenAt H'' g (m + step * (i + 1)) → Qt (.int y) H'') → te ((wipe σ vs).set j (some (.int (lo + (i : Int))))) H' Qt)
    (hd : ∀ H' (ys : List Int), But g H1 H' → GenAt H' g (m + step * n) → H' D = some (.lst (ys.map V.int)) → ys.length = n → (∀ y ∈ ys, P y) → Qd H') :
    ∃ W : Nat → Nat → Hp → Prop, (∃ m, W 0 m (upd H1 D (.lst []))) ∧ ∀ i m H, W i m H →
      ((Itr lo n).stop i H ∧ Qd H) ∨ ((Itr lo n).go i H ∧ ∃ Nx : Hp → Prop, (∀ H', Nx H' → ∃ m', m' < m ∧ W (i + 1) m' H') ∧ ∀ x H', (Itr lo n).yld i H x H' → gName j x (wipe σ vs) H' fun σ2 H2 => wipe σ2 vs = wipe σ vs ∧ tYes σ2 H2 fun b H3 =>
        if b = true then te σ2 H3 fun y H4 => ∃ acc, H4 D = some (.lst acc) ∧ acc.length < sizeLine ∧ Nx (upd H4 D (.lst (acc ++ [y]))) else Nx H3) := by
  have nDg : D ≠ g := hG.ne nD
  refine lc_range (lo := lo) (n := n) (fun i H => ∃ ys : List Int, But g H1 H ∧ GenAt H g (m + step * i) ∧ H D = some (.lst (ys.map V.int)) ∧ ys.length = i ∧ ∀ y ∈ ys, P y)
    ⟨[], But.of (same_upd nD), hG.same (same_upd nD), upd_same, rfl, (fun _ h => nomatch h)⟩ ?_ ?_
  · rintro i H hi ⟨ys, b, hg, hD, hl, hP⟩
    refine ⟨hw _, ?_⟩
    unfold tYes
    dsimp only
    rw [if_pos (show true = true from rfl)]
    refine hs i H hi b hg _ fun y H2 py b2 hg2 => ?_
    refine ⟨_, b2 _ _ nDg hD, by rw [List.length_map]; omega, ys ++ [y], ?_, ?_, ?_, ?_, ?_⟩
    · intro c o nc hc
      rw [upd_ne (ne_of_none hc nD)]
      exact b2 _ _ nc (b _ _ nc hc)
    · obtain ⟨x1, x2, x3, e1, e2⟩ := hg2
      exact ⟨x1, x2, x3, by rw [upd_ne nDg.symm]; exact e1, e2⟩
    · rw [upd_same, List.map_append]
      rfl
    · rw [List.length_append, hl]
      rfl
    · intro z hz
      rcases List.mem_append.mp hz with hz | hz
      · exact hP z hz
      · rw [List.mem_singleton.mp hz]
        exact py
  · rintro H ⟨ys, b, hg, hD, hl, hP⟩
    exact hd H ys b hg hD hl hP
end
end My

namespace My
open PySem PySem.Spec PyProof.Rows L2 Pre
/-- a comprehension over a list that makes new things: R tells what is known of the i-th -/
theorem lc_relL {K : PySem.W.Frag} {a : Addr} {xs : List V} {j : Nat} {te : TE} {vs : List Nat} {σ : L2.St} {H1 : Hp} {D : Addr} {Qd : Hp → Prop} (R : Nat → V → Hp → Prop) (nD : H1 D = none) (hS : SqL K H1 a xs) (hz : xs.length < sizeLine)
    (mono : ∀ (i : Nat) (y : V) (H H' : Hp), Pre.Off D H H' → R i y H → R i y H') (hw : ∀ x, wipe ((wipe σ vs).set j (some x)) vs = wipe σ vs)
    (hs : ∀ (i : Nat) (x : V) (H' : Hp) (zs : List V), xs[i]? = some x → Same H1 H' → H' D = some (.lst zs) → ∀ Qt : V → Hp → Prop, (∀ y H'', Same H' H'' → R i y H'' → Qt y H'') → te ((wipe σ vs).set j (some x)) H' Qt)
    (hd : ∀ H' ys, Same H1 H' → H' D = some (.lst ys) → ys.length = xs.length → (∀ (i : Nat) (y : V), ys[i]? = some y → R i y H') → Qd H') :
    ∃ W : Nat → Nat → Hp → Prop, (∃ m, W 0 m (upd H1 D (.lst []))) ∧ ∀ i m H, W i m H →
      ((Itl K a).stop i H ∧ Qd H) ∨ ((Itl K a).go i H ∧ ∃ Nx : Hp → Prop, (∀ H', Nx H' → ∃ m', m' < m ∧ W (i + 1) m' H') ∧ ∀ x H', (Itl K a).yld i H x H' → gName j x (wipe σ vs) H' fun σ2 H2 => wipe σ2 vs = wipe σ vs ∧ tYes σ2 H2 fun b H3 =>
        if b = true then te σ2 H3 fun y H4 => ∃ acc, H4 D = some (.lst acc) ∧ acc.length < sizeLine ∧ Nx (upd H4 D (.lst (acc ++ [y]))) else Nx H3) := by
  refine lc_list (K := K) (a := a) (xs := xs) (RelPv R H1 D) ⟨[], same_upd nD, upd_same, rfl, fun k y h => by simp at h⟩ (fun i H _ ⟨_, s, _⟩ => s.seq hS) ?_ ?_
  · rintro i x H hx ⟨ys, s, hD, hl, hR⟩
    have hi : i < xs.length := (List.getElem?_eq_some_iff.mp hx).1
    refine ⟨hw _, ?_⟩
    unfold tYes
    dsimp only
    rw [if_pos (show true = true from rfl)]
    refine hs i x H ys hx s hD _ fun y H4 s4 r4 => ?_
    refine ⟨ys, s4 _ _ hD, by omega, ys ++ [y], same_over nD (s.trans s4), upd_same, by rw [List.length_append, hl]; rfl, fun k z hz => ?_⟩
    have off : Pre.Off D H4 (upd H4 D (.lst (ys ++ [y]))) := fun b o nb h => by rw [upd_ne nb]; exact h
    by_cases hk : k < ys.length
    · rw [List.getElem?_append_left hk] at hz
      exact mono k z H _ (fun b o nb h => off b o nb (s4 b o h)) (hR k z hz)
    · rw [List.getElem?_append_right (by omega)] at hz
      have hk2 : k - ys.length = 0 := by
        have h2 := (List.getElem?_eq_some_iff.mp hz).1
        rw [List.length_singleton] at h2
        omega
      rw [hk2] at hz
      cases hz
      have ek : k = i := by omega
      rw [ek]
      exact mono i y H4 _ off r4
  · rintro H ⟨ys, s, hD, hl, hR⟩
    exact hd H ys s hD hl hR
/-- a list of lists of whole numbers -/
def RowsIn (H : Hp) (p : Addr) (rows : List (List Int)) : Prop := ∃ as : List Addr, H p = some (.lst (as.map V.ref)) ∧ as.length = rows.length ∧ ∀ (i : Nat) (a : Addr) (r : List Int), as[i]? = some a → rows[i]? = some r → H a = some (.lst (r.map V.int))
theorem RowsIn.same {H H' : Hp} {p : Addr} {rows : List (List Int)} (h : RowsIn H p rows) (s : Same H H') : RowsIn H' p rows := by
  obtain ⟨as, h1, h2, h3⟩ := h
  exact ⟨as, s _ _ h1, h2, fun i a r ha hr => s _ _ (h3 i a r ha hr)⟩
section
variable {X : Cx}
theorem huD {k : Nat} {A : Around} (r : Room k A) : A.units + 65 < cLine := by have := r.un; omega
theorem k_inD (K : PySem.W.Frag) (h : X.K = K) (hu : X.A.units + 65 < cLine) : OpR X (compareOp .In) (rInD K) := by subst h; exact op_inD hu
theorem k_notInD (K : PySem.W.Frag) (h : X.K = K) (hu : X.A.units + 65 < cLine) : OpR X (compareOp .NotIn) (rNotInD K) := by subst h; exact op_notInD hu
theorem k_indexD (K : PySem.W.Frag) (h : X.K = K) (hu : X.A.units + 65 < cLine) : MtR X "list.index" (rIndexD K) := by subst h; exact mt_indexD hu
end
/-- rows as data -/
def rowD (r : List Int) : PyData := .list (r.map PyData.int)
theorem rows_dp {K : PySem.W.Frag} {H : Hp} : ∀ {as : List Addr} {rows : List (List Int)}, as.length = rows.length → (∀ (i : Nat) (a : Addr) (r : List Int), as[i]? = some a → rows[i]? = some r → H a = some (.lst (r.map V.int))) → DpAll K H (as.map V.ref) (rows.map rowD)
  | [], [], _, _ => .nil
  | [], _ :: _, h, _ => by simp at h
  | _ :: _, [], h, _ => by simp at h
  | a :: as, r :: rows, h, k => .cons (.lst (.inl (.inl (k 0 a r rfl rfl))) (Pre.dp_ints r)) (rows_dp (by simpa using h) fun i t q ht hq => k (i + 1) t q (by simpa using ht) (by simpa using hq))
theorem rowD_eqv (r q : List Int) : PyData.eqv (rowD r) (rowD q) = decide (r = q) := by
  unfold rowD
  rw [PyData.eqv, eqv_ints]
theorem rows_shaped (rows : List (List Int)) : SeqAt.shaped (.list (rows.map rowD)) = true := by
  have h1 : ∀ l : List (List Int), PyData.canLayAll0 (l.map rowD) = true := fun l => by
    induction l with
    | nil => rfl
    | cons r l ih =>
      show (PyData.canLay0 (rowD r) && PyData.canLayAll0 (l.map rowD)) = true
      rw [ih]
      unfold rowD
      rw [PyData.canLay0, lay_ints]
      rfl
  have h2 : ∀ l : List (List Int), PyData.depthAll (l.map rowD) ≤ 1 := fun l => by
    induction l with
    | nil => simp [PyData.depthAll]
    | cons r l ih =>
      show PyData.depthAll (rowD r :: l.map rowD) ≤ 1
      rw [PyData.depthAll]
      unfold rowD at *
      rw [PyData.depth, depth_ints]
      omega
  show (PyData.canLay0 (.list (rows.map rowD)) && decide (PyData.depth (.list (rows.map rowD)) ≤ 64)) = true
  rw [Bool.and_eq_true]
  have := h2 rows
  exact ⟨by rw [PyData.canLay0]; exact h1 rows, decide_eq_true (by rw [PyData.depth]; omega)⟩
end My

namespace My
open PySem PySem.Spec PyProof.Rows L2 Pre
/-! ### min and max of a list of pairs of whole numbers -/
def pairD (p : Int × Int) : PyData := .tuple [.int p.1, .int p.2]
def ltP2 (p q : Int × Int) : Prop := p.1 < q.1 ∨ (p.1 = q.1 ∧ p.2 < q.2)
instance (p q : Int × Int) : Decidable (ltP2 p q) := by unfold ltP2; infer_instance
theorem pair_lt (p q : Int × Int) : PySem.W.dataLt (pairD p) (pairD q) = decide (ltP2 p q) := PySem.W.dataLt_ii p.1 p.2 q.1 q.2
theorem ltP2_trans {p q r : Int × Int} (h : ¬ ltP2 q p) (k : ¬ ltP2 r q) : ¬ ltP2 r p := by
  unfold ltP2 at *
  omega
def minP (p : Int × Int) (ps : List (Int × Int)) : Int × Int := ps.foldl (fun a y => if ltP2 y a then y else a) p
def maxP (p : Int × Int) (ps : List (Int × Int)) : Int × Int := ps.foldl (fun a y => if ltP2 a y then y else a) p
theorem minP_data : ∀ (ps : List (Int × Int)) (p : Int × Int), PySem.W.minD (pairD p) (ps.map pairD) = pairD (minP p ps)
  | [], _ => rfl
  | q :: ps, p => by
    show PySem.W.minD (if PySem.W.dataLt (pairD q) (pairD p) = true then pairD q else pairD p) (ps.map pairD) = pairD (minP (if ltP2 q p then q else p) ps)
    rw [pair_lt]
    by_cases h : ltP2 q p
    · rw [decide_eq_true h, if_pos rfl, if_pos h, minP_data ps q]
    · rw [decide_eq_false h, if_neg (by decide), if_neg h, minP_data ps p]
theorem maxP_data : ∀ (ps : List (Int × Int)) (p : Int × Int), PySem.W.maxD (pairD p) (ps.map pairD) = pairD (maxP p ps)
  | [], _ => rfl
  | q :: ps, p => by
    show PySem.W.maxD (if PySem.W.dataLt (pairD p) (pairD q) = true then pairD q else pairD p) (ps.map pairD) = pairD (maxP (if ltP2 p q then q else p) ps)
    rw [pair_lt]
    by_cases h : ltP2 p q
    · rw [decide_eq_true h, if_pos rfl, if_pos h, maxP_data ps q]
    · rw [decide_eq_false h, if_neg (by decide), if_neg h, maxP_data ps p]
theorem minP_spec : ∀ (ps : List (Int × Int)) (p : Int × Int), minP p ps ∈ p :: ps ∧ ∀ q ∈ p :: ps, ¬ ltP2 q (minP p ps)
  | [], p => ⟨List.mem_cons_self, fun q hq => by
      rw [List.mem_singleton.mp hq]
      show ¬ ltP2 p p
      unfold ltP2
      omega⟩
  | r :: ps, p => by
    show minP (if ltP2 r p then r else p) ps ∈ _ ∧ ∀ q ∈ p :: r :: ps, ¬ ltP2 q (minP (if ltP2 r p then r else p) ps)
    by_cases h : ltP2 r p
    · rw [if_pos h]
      obtain ⟨h1, h2⟩ := minP_spec ps r
      refine ⟨List.mem_cons_of_mem _ h1, fun q hq => ?_⟩
      rcases List.mem_cons.mp hq with rfl | hq
      · have := h2 r List.mem_cons_self
        exact fun z => this (by unfold ltP2 at *; omega)
      · exact h2 q hq
    · rw [if_neg h]
      obtain ⟨h1, h2⟩ := minP_spec ps p
      refine ⟨?_, fun q hq => ?_⟩
      · rcases List.mem_cons.mp h1 with e | e
        · rw [e]; exact List.mem_cons_self
        · exact List.mem_cons_of_mem _ (List.mem_cons_of_mem _ e)
      · rcases List.mem_cons.mp hq with rfl | hq
        · exact h2 q List.mem_cons_self
        · rcases List.mem_cons.mp hq with rfl | hq
          · have := h2 p List.mem_cons_self
            exact fun z => this (by unfold ltP2 at *; omega)
          · exact h2 q (List.mem_cons_of_mem _ hq)
theorem maxP_spec : ∀ (ps : List (Int × Int)) (p : Int × Int), maxP p ps ∈ p :: ps ∧ ∀ q ∈ p :: ps, ¬ ltP2 (maxP p ps) q
  | [], p => ⟨List.mem_cons_self, fun q hq => by
      rw [List.mem_singleton.mp hq]
      show ¬ ltP2 p p
      unfold ltP2
      omega⟩
  | r :: ps, p => by
    show maxP (if ltP2 p r then r else p) ps ∈ _ ∧ ∀ q ∈ p :: r :: ps, ¬ ltP2 (maxP (if ltP2 p r then r else p) ps) q
    by_cases h : ltP2 p r
    · rw [if_pos h]
      obtain ⟨h1, h2⟩ := maxP_spec ps r
      refine ⟨List.mem_cons_of_mem _ h1, fun q hq => ?_⟩
      rcases List.mem_cons.mp hq with rfl | hq
      · have := h2 r List.mem_cons_self
        exact fun z => this (by unfold ltP2 at *; omega)
      · exact h2 q hq
    · rw [if_neg h]
      obtain ⟨h1, h2⟩ := maxP_spec ps p
      refine ⟨?_, fun q hq => ?_⟩
      · rcases List.mem_cons.mp h1 with e | e
        · rw [e]; exact List.mem_cons_self
        · exact List.mem_cons_of_mem _ (List.mem_cons_of_mem _ e)
      · rcases List.mem_cons.mp hq with rfl | hq
        · exact h2 q List.mem_cons_self
        · rcases List.mem_cons.mp hq with rfl | hq
          · have := h2 p List.mem_cons_self
            exact fun z => this (by unfold ltP2 at *; omega)
          · exact h2 q (List.mem_cons_of_mem _ hq)
theorem pairs_alike (ps : List (Int × Int)) : PySem.W.AlikeAll (ps.map pairD) := by
  refine ⟨fun x hx y hy => ?_, fun x hx => ?_⟩
  · obtain ⟨p, _, rfl⟩ := List.mem_map.mp hx
    obtain ⟨q, _, rfl⟩ := List.mem_map.mp hy
    rfl
  · obtain ⟨p, _, rfl⟩ := List.mem_map.mp hx
    exact fun z => nomatch z
theorem pairs_lay : ∀ ps : List (Int × Int), PyData.canLayAll0 (ps.map pairD) = true
  | [] => rfl
  | p :: ps => by simp [PyData.canLayAll0, PyData.canLay0, pairD, pairs_lay ps]
theorem pairs_depth : ∀ ps : List (Int × Int), PyData.depthAll (ps.map pairD) ≤ 2
  | [] => by simp [PyData.depthAll]
  | p :: ps => by
    have := pairs_depth ps
    simp only [List.map_cons, PyData.depthAll, pairD, PyData.depth]
    omega
/-- a list of pairs, at a -/
def PairsAt (K : PySem.W.Frag) (H : Hp) (a : Addr) (ps : List (Int × Int)) : Prop := ∃ as : List Addr, SqL K H a (as.map V.ref) ∧ as.length = ps.length ∧ ∀ (i : Nat) (t : Addr) (p : Int × Int), as[i]? = some t → ps[i]? = some p → SqT K H t [.int p.1, .int p.2]
theorem pairs_dp {K : PySem.W.Frag} {H : Hp} : ∀ {as : List Addr} {ps : List (Int × Int)}, as.length = ps.length → (∀ (i : Nat) (t : Addr) (p : Int × Int), as[i]? = some t → ps[i]? = some p → SqT K H t [.int p.1, .int p.2]) → DpAll K H (as.map V.ref) (ps.map pairD)
  | [], [], _, _ => .nil
  | [], _ :: _, h, _ => by simp at h
  | _ :: _, [], h, _ => by simp at h
  | a :: as, p :: ps, h, k => .cons (.tup (k 0 a p rfl rfl) (.cons (.int _) (.cons (.int _) .nil))) (pairs_dp (by simpa using h) fun i t q ht hq => k (i + 1) t q (by simpa using ht) (by simpa using hq))
def rMnP (K : PySem.W.Frag) (best : Int × Int → List (Int × Int) → Int × Int) : List V → Hp → VK → Prop := fun xs H Q => ∃ (a : Addr) (p : Int × Int) (ps : List (Int × Int)), xs = [.ref a] ∧ PairsAt K H a (p :: ps) ∧ ∀ t, SqT K H t [.int (best p ps).1, .int (best p ps).2] → Q (.ref t) H
section
variable {X : Cx} {K : PySem.W.Frag}
theorem pick {H : Hp} {s : Shared} {as : List Addr} {ps : List (Int × Int)} {its : List Value} {i : Nat} {v : Value} {h' : Heap} {bs cs : List Addr} {b : Int × Int} (hl : as.length = ps.length)
    (hT : ∀ (i : Nat) (t : Addr) (p : Int × Int), as[i]? = some t → ps[i]? = some p → SqT K H t [.int p.1, .int p.2]) (rv : Vals (as.map V.ref) its) (hr : ReadsAll s.heap its (ps.map pairD) cs) (hv : its.toArray[i]? = some v) (rd : Reads h' v (pairD b) bs)
    (hk : ∀ b o, s.heap.get? b = some o → h'.get? b = some o) : ∃ t, v = .ref t ∧ SqT K H t [.int b.1, .int b.2] := by
  have hv' : its[i]? = some v := by simpa using hv
  have hil : i < its.length := (List.getElem?_eq_some_iff.mp hv').1
  have hvl := rv.length
  rw [List.length_map] at hvl
  obtain ⟨u, hu, ru⟩ := rv.get (show (as.map V.ref)[i]? = some (.ref (as[i]'(by omega))) by rw [List.getElem?_map, List.getElem?_eq_getElem (by omega)]; rfl)
  rw [hv'] at hu
  cases hu
  have hp : ps[i]? = some (ps[i]'(by omega)) := List.getElem?_eq_getElem (by omega)
  obtain ⟨ds, r1, _, _, _⟩ := PySem.W.readsAll_at hr i v hv'
  have e1 : (ps.map pairD).getD i .none = pairD (ps[i]'(by omega)) := by
    rw [List.getD_eq_getElem?_getD, List.getElem?_map, hp]
    rfl
  rw [e1] at r1
  have e2 := PySem.SeqAt.Reads.unique (pairD b) _ v _ _ (by simp [pairD, PyData.canLay0, PyData.canLayAll0]) rd (Reads.keeps hk r1)
  have e3 : b = ps[i]'(by omega) := by
    unfold pairD at e2
    injection e2 with e2
    injection e2 with e4 e5
    injection e5 with e5 _
    injection e4 with e4
    injection e5 with e5
    exact Prod.ext e4 e5
  refine ⟨as[i]'(by omega), ru, ?_⟩
  rw [e3]
  exact hT i _ _ (List.getElem?_eq_getElem (by omega)) hp
theorem k_minP (K : PySem.W.Frag) (h : X.K = K) (hc : X.calm = true) (hu : X.A.units + 65 < cLine) : CallR X (.builtin "min") (rMnP K minP) := by
  subst h
  intro pins s σ H xs us Q I r h
  obtain ⟨a, p, ps, rfl, ⟨as, hS, hl, hT⟩, q⟩ := h
  obtain ⟨its, rv, hL, _⟩ := I.list hS
  rw [Vals.ref1 r]
  obtain ⟨cs, hr⟩ := Dp.readsAll I _ _ its (pairs_dp hl hT) rv
  have hd := pairs_depth (p :: ps)
  refine PySem.W.min_list_data (I.ok.hd hc) hL.isList (show ReadsAll s.heap its.toArray.toList (pairD p :: ps.map pairD) cs by simpa using hr) (pairs_alike (p :: ps)) (by rw [List.map_cons] at hd; omega) fun i v h' tk bs hv rd hk => ?_
  rw [minP_data] at rd
  obtain ⟨t, rfl, ht⟩ := pick hl hT rv hr hv rd hk
  exact ⟨.ref t, H, I.kept hk, rfl, q t ht⟩
theorem k_maxP (K : PySem.W.Frag) (h : X.K = K) (hc : X.calm = true) (hu : X.A.units + 65 < cLine) : CallR X (.builtin "max") (rMnP K maxP) := by
  subst h
  intro pins s σ H xs us Q I r h
  obtain ⟨a, p, ps, rfl, ⟨as, hS, hl, hT⟩, q⟩ := h
  obtain ⟨its, rv, hL, _⟩ := I.list hS
  rw [Vals.ref1 r]
  obtain ⟨cs, hr⟩ := Dp.readsAll I _ _ its (pairs_dp hl hT) rv
  have hd := pairs_depth (p :: ps)
  refine PySem.W.max_list_data (I.ok.hd hc) hL.isList (show ReadsAll s.heap its.toArray.toList (pairD p :: ps.map pairD) cs by simpa using hr) (pairs_alike (p :: ps)) (by rw [List.map_cons] at hd; omega) fun i v h' tk bs hv rd hk => ?_
  rw [maxP_data] at rd
  obtain ⟨t, rfl, ht⟩ := pick hl hT rv hr hv rd hk
  exact ⟨.ref t, H, I.kept hk, rfl, q t ht⟩
theorem huM {k : Nat} {A : Around} (r : Room k A) : A.units + 65 < cLine := by have := r.un; omega
end
end My

namespace My
open PySem PySem.Spec PyProof.Rows L2
/-! ### list.count of flat values -/
theorem countU {y : V} : ∀ {ys : List V} {us : List Value}, Vals ys us → ys.all flatV = true → us.countP (eqU y) = ys.countP fun z => eqV z y
  | _, _, .nil, _ => rfl
  | _, _, .cons (a := z) (b := u) r rest, h => by
    rw [List.all_cons, Bool.and_eq_true] at h
    rw [List.countP_cons, List.countP_cons, countU rest h.2, eqU_of r h.1]
def rCntF (K : PySem.W.Frag) : V → List V → Hp → VK → Prop := fun x xs H Q => ∃ (a : Addr) (ys : List V) (y : V), x = .ref a ∧ xs = [y] ∧ SqL K H a ys ∧ flatV y = true ∧ ys.all flatV = true ∧ Q (.int ((ys.countP fun z => eqV z y : Nat) : Int)) H
theorem k_countF {X : Cx} (K : PySem.W.Frag) (h : X.K = K) : MtR X "list.count" (rCntF K) := by
  subst h
  intro pins s σ H x xs v us Q I rx rxs h
  obtain ⟨a, ys, y, rfl, rfl, hs, fy, fys, q⟩ := h
  cases rx
  cases rxs with
  | cons ry rt =>
    rename_i uy ut
    cases rt
    obtain ⟨its, rv, ⟨⟨cls, dd, data, sl⟩, n, ho, hc, hdn, hd⟩, hlen⟩ := I.list hs
    simp only at hc hd
    subst hc hd
    refine call_meets PySem.F.slot_list_count ⟨_, ho, rfl⟩ PySem.F.entry_list_count (PySem.F.args_list_count_2 _ _)
      (SeqAt.list_countAt a its.toArray n dd sl uy (eqU y)) ⟨ho, fun u' hu' => mem_eqAt ry fy rv fys u' (by simpa using hu'), ?_⟩
    have ec : its.toArray.toList.countP (eqU y) = ys.countP fun z => eqV z y := countU rv fys
    refine ⟨.int ((ys.countP fun z => eqV z y : Nat) : Int), H, I.tok _, ⟨s.toks, ?_⟩, q⟩
    show Value.int ((its.toArray.toList.countP (eqU y) : Nat) : Int) s.toks = _
    rw [ec]
end My

namespace My
open PySem PySem.Spec PyProof.Rows L2 Pre
/-! ### data in a heap: what is told of a value by lists and tuples that stand there (none of them frozen) -/
mutual
inductive Dt (H : Hp) : V → PyData → Prop
  | non : Dt H .non .none
  | bl (b : Bool) : Dt H (.bl b) (.bool b)
  | int (n : Int) : Dt H (.int n) (.int n)
  | str (x : Str) : Dt H (.str x) (.str x)
  | lst {a : Addr} {xs : List V} {ds : List PyData} : H a = some (.lst xs) → DtA H xs ds → Dt H (.ref a) (.list ds)
  | tup {a : Addr} {xs : List V} {ds : List PyData} : H a = some (.tup xs) → DtA H xs ds → Dt H (.ref a) (.tuple ds)
inductive DtA (H : Hp) : List V → List PyData → Prop
  | nil : DtA H [] []
  | cons {v : V} {vs : List V} {d : PyData} {ds : List PyData} : Dt H v d → DtA H vs ds → DtA H (v :: vs) (d :: ds)
end
mutual
theorem Dt.same {H H' : Hp} (s : Same H H') : ∀ {d : PyData} {v : V}, Dt H v d → Dt H' v d
  | .none, _, h => by cases h; exact .non
  | .bool _, _, h => by cases h; exact .bl _
  | .int _, _, h => by cases h; exact .int _
  | .str _, _, h => by cases h; exact .str _
  | .list _, _, h => by cases h with | lst a b => exact .lst (s _ _ a) (DtA.same s b)
  | .tuple _, _, h => by cases h with | tup a b => exact .tup (s _ _ a) (DtA.same s b)
  | .dict _, _, h => nomatch h
theorem DtA.same {H H' : Hp} (s : Same H H') : ∀ {ds : List PyData} {vs : List V}, DtA H vs ds → DtA H' vs ds
  | [], _, h => by cases h; exact .nil
  | _ :: _, _, h => by cases h with | cons a b => exact .cons (Dt.same s a) (DtA.same s b)
end
mutual
theorem Dt.dp {K : PySem.W.Frag} {H : Hp} : ∀ {d : PyData} {v : V}, Dt H v d → Dp K H v d
  | .none, _, h => by cases h; exact .non
  | .bool _, _, h => by cases h; exact .bl _
  | .int _, _, h => by cases h; exact .int _
  | .str _, _, h => by cases h; exact .str _
  | .list _, _, h => by cases h with | lst a b => exact .lst (.inl (.inl a)) (DtA.dp b)
  | .tuple _, _, h => by cases h with | tup a b => exact .tup (.inl (.inl a)) (DtA.dp b)
  | .dict _, _, h => nomatch h
theorem DtA.dp {K : PySem.W.Frag} {H : Hp} : ∀ {ds : List PyData} {vs : List V}, DtA H vs ds → DpAll K H vs ds
  | [], _, h => by cases h; exact .nil
  | _ :: _, _, h => by cases h with | cons a b => exact .cons (Dt.dp a) (DtA.dp b)
end
theorem DtA.len {H : Hp} : ∀ {ds : List PyData} {vs : List V}, DtA H vs ds → vs.length = ds.length
  | [], _, h => by cases h; rfl
  | _ :: _, _, h => by cases h with | cons a b => rw [List.length_cons, List.length_cons, DtA.len b]
theorem DtA.app {H : Hp} : ∀ {ds : List PyData} {vs : List V} {es : List PyData} {us : List V}, DtA H vs ds → DtA H us es → DtA H (vs ++ us) (ds ++ es)
  | [], _, _, _, h, k => by cases h; exact k
  | _ :: _, _, _, _, h, k => by cases h with | cons a b => exact .cons a (DtA.app b k)
theorem DtA.get {H : Hp} : ∀ {ds : List PyData} {vs : List V} {i : Nat} {d : PyData}, DtA H vs ds → ds[i]? = some d → ∃ v, vs[i]? = some v ∧ Dt H v d
  | [], _, _, _, _, k => by simp at k
  | _ :: _, _, 0, _, h, k => by
    cases h with
    | cons a b => rw [List.getElem?_cons_zero] at k; cases k; exact ⟨_, rfl, a⟩
  | _ :: _, _, i + 1, _, h, k => by
    cases h with
    | cons a b => rw [List.getElem?_cons_succ] at k; rw [List.getElem?_cons_succ]; exact DtA.get b k
theorem DtA.got {H : Hp} {ds : List PyData} {vs : List V} {i : Nat} {v : V} (h : DtA H vs ds) (k : vs[i]? = some v) : ∃ d, ds[i]? = some d ∧ Dt H v d := by
  have hi := (List.getElem?_eq_some_iff.mp k).1
  have hl := h.len
  obtain ⟨u, hu, d⟩ := h.get (List.getElem?_eq_getElem (show i < ds.length by omega))
  rw [k] at hu
  cases hu
  exact ⟨_, List.getElem?_eq_getElem (by omega), d⟩
theorem DtA.take {H : Hp} : ∀ {ds : List PyData} {vs : List V} (n : Nat), DtA H vs ds → DtA H (vs.take n) (ds.take n)
  | _, _, 0, _ => .nil
  | [], _, _ + 1, h => by cases h; exact .nil
  | _ :: _, _, n + 1, h => by cases h with | cons a b => exact .cons a (DtA.take n b)
theorem DtA.drop {H : Hp} : ∀ {ds : List PyData} {vs : List V} (n : Nat), DtA H vs ds → DtA H (vs.drop n) (ds.drop n)
  | _, _, 0, h => h
  | [], _, _ + 1, h => by cases h; exact .nil
  | _ :: _, _, n + 1, h => by cases h with | cons a b => exact DtA.drop n b
theorem DtA.rev {H : Hp} : ∀ {ds : List PyData} {vs : List V}, DtA H vs ds → DtA H vs.reverse ds.reverse
  | [], _, h => by cases h; exact .nil
  | _ :: _, _, h => by
    cases h with
    | cons a b => rw [List.reverse_cons, List.reverse_cons]; exact DtA.app (DtA.rev b) (.cons a .nil)
theorem DtA.ints {H : Hp} : ∀ ns : List Int, DtA H (ns.map V.int) (ns.map PyData.int)
  | [] => .nil
  | n :: r => .cons (.int n) (DtA.ints r)
theorem DtA.intsE {H : Hp} : ∀ {ns : List Int} {vs : List V}, DtA H vs (ns.map PyData.int) → vs = ns.map V.int
  | [], _, h => by cases h; rfl
  | n :: r, _, h => by
    cases h with
    | cons a b => cases a; rw [DtA.intsE b]; rfl
/-- a list of whole numbers -/
theorem Dt.ints {H : Hp} {a : Addr} {ns : List Int} (h : H a = some (.lst (ns.map V.int))) : Dt H (.ref a) (rowD ns) := .lst h (DtA.ints ns)
theorem Dt.intsE {H : Hp} {v : V} {ns : List Int} (h : Dt H v (rowD ns)) : ∃ a, v = .ref a ∧ H a = some (.lst (ns.map V.int)) := by
  unfold rowD at h
  cases h with
  | lst a b => rw [DtA.intsE b] at a; exact ⟨_, rfl, a⟩
theorem Dt.listE {H : Hp} {v : V} {ds : List PyData} (h : Dt H v (.list ds)) : ∃ a xs, v = .ref a ∧ H a = some (.lst xs) ∧ DtA H xs ds := by
  cases h with
  | lst a b => exact ⟨_, _, rfl, a, b⟩
theorem Dt.tupE {H : Hp} {v : V} {ds : List PyData} (h : Dt H v (.tuple ds)) : ∃ a xs, v = .ref a ∧ H a = some (.tup xs) ∧ DtA H xs ds := by
  cases h with
  | tup a b => exact ⟨_, _, rfl, a, b⟩
/-! ### what is owned (and changes) is left out -/
def rs (S : List Addr) (H : Hp) : Hp := fun a => if a ∈ S then none else H a
theorem rs_nil (H : Hp) : rs [] H = H := by funext a; simp [rs]
theorem rs_in {S : List Addr} {H : Hp} {a : Addr} (h : a ∈ S) : rs S H a = none := if_pos h
theorem rs_out {S : List Addr} {H : Hp} {a : Addr} (h : a ∉ S) : rs S H a = H a := if_neg h
theorem rs_some {S : List Addr} {H : Hp} {a : Addr} {o : HO} (h : rs S H a = some o) : a ∉ S ∧ H a = some o := by
  by_cases m : a ∈ S
  · rw [rs_in m] at h; cases h
  · rw [rs_out m] at h; exact ⟨m, h⟩
theorem rs_le {S : List Addr} {H : Hp} : Same (rs S H) H := fun _ _ h => (rs_some h).2
theorem rs_same {S : List Addr} {H H' : Hp} (s : Same H H') : Same (rs S H) (rs S H') := fun b o h => by
  obtain ⟨m, e⟩ := rs_some h
  rw [rs_out m]
  exact s b o e
theorem rs_upd {S : List Addr} {H : Hp} {p : Addr} {o : HO} (h : p ∈ S) : rs S (L2.upd H p o) = rs S H := by
  funext a
  by_cases m : a ∈ S
  · rw [rs_in m, rs_in m]
  · rw [rs_out m, rs_out m, upd_ne (fun e => m (by rw [e]; exact h))]
/-- all of them stand -/
def Has (S : List Addr) (H : Hp) : Prop := ∀ a ∈ S, ∃ o, H a = some o
theorem Has.nil {H : Hp} : Has [] H := fun _ h => nomatch h
theorem Has.same {S : List Addr} {H H' : Hp} (h : Has S H) (s : Same H H') : Has S H' := fun a m => by
  obtain ⟨o, e⟩ := h a m
  exact ⟨o, s a o e⟩
theorem Has.cons {S : List Addr} {H : Hp} {p : Addr} {o : HO} (h : Has S H) (e : H p = some o) : Has (p :: S) H := fun a m => by
  rcases List.mem_cons.mp m with rfl | m
  · exact ⟨o, e⟩
  · exact h a m
theorem Has.upd {S : List Addr} {H : Hp} {p : Addr} {o : HO} (h : Has S H) : Has S (L2.upd H p o) := fun a m => by
  by_cases e : a = p
  · subst e; exact ⟨o, upd_same⟩
  · rw [upd_ne e]; exact h a m
theorem Has.out {S : List Addr} {H : Hp} {p : Addr} (h : Has S H) (n : H p = none) : p ∉ S := fun m => by
  obtain ⟨o, e⟩ := h p m
  rw [n] at e
  cases e
theorem GenAt.has {H : Hp} {g : Addr} {n : Nat} (h : GenAt H g n) : Has [g] H := by
  obtain ⟨x, y, z, e, _⟩ := h
  exact Has.nil.cons e
/-- all but what is owned stays -/
def Sta (S : List Addr) (H H' : Hp) : Prop := Same (rs S H) (rs S H')
theorem Sta.of {S : List Addr} {H H' : Hp} (s : Same H H') : Sta S H H' := rs_same s
theorem Sta.trans {S : List Addr} {H H1 H2 : Hp} (a : Sta S H H1) (b : Sta S H1 H2) : Sta S H H2 := fun c o h => b c o (a c o h)
theorem Sta.at_ {S : List Addr} {H H' : Hp} (s : Sta S H H') {a : Addr} {o : HO} (m : a ∉ S) (h : H a = some o) : H' a = some o := (rs_some (s a o (by rw [rs_out m]; exact h))).2
theorem Sta.upd {S : List Addr} {H : Hp} {p : Addr} {o : HO} (h : p ∈ S) : Sta S H (L2.upd H p o) := fun c u e => by rw [rs_upd h]; exact e
theorem Sta.more {S : List Addr} {H H' : Hp} {p : Addr} (s : Sta S H H') : Sta (p :: S) H H' := fun c o h => by
  obtain ⟨m, e⟩ := rs_some h
  have m2 : c ∉ S := fun z => m (List.mem_cons_of_mem _ z)
  rw [rs_out m]
  exact s.at_ m2 e
theorem But.sta {g : Addr} {H H' : Hp} (b : But g H H') : Sta [g] H H' := fun c o h => by
  obtain ⟨m, e⟩ := rs_some h
  rw [rs_out m]
  exact b c o (fun z => m (by rw [z]; exact List.mem_cons_self)) e
/-- what was there ahead of a new thing does not speak of it -/
theorem under {S : List Addr} {H H' : Hp} {p : Addr} (n : H p = none) (s : Same H H') : Same (rs S H) (rs (p :: S) H') := fun c o h => by
  obtain ⟨m, e⟩ := rs_some h
  rw [rs_out (fun z => by
    rcases List.mem_cons.mp z with rfl | z
    · rw [n] at e; cases e
    · exact m z)]
  exact s c o e
theorem over {S : List Addr} {H : Hp} {p : Addr} : Same (rs (p :: S) H) (rs S H) := fun c o h => by
  obtain ⟨m, e⟩ := rs_some h
  rw [rs_out (fun z => m (List.mem_cons_of_mem _ z))]
  exact e
/-! ### a new list, a new tuple, a sum of lists -/
theorem dt_new {S : List Addr} {H : Hp} {p : Addr} {xs : List V} {ds : List PyData} (hS : Has S H) (n : H p = none) (h : DtA (rs S H) xs ds) : Dt (rs S (upd H p (.lst xs))) (.ref p) (.list ds) :=
  .lst (by rw [rs_out (hS.out n)]; exact upd_same) (h.same (rs_same (same_upd n)))
theorem dt_newT {S : List Addr} {H : Hp} {p : Addr} {xs : List V} {ds : List PyData} (hS : Has S H) (n : H p = none) (h : DtA (rs S H) xs ds) : Dt (rs S (upd H p (.tup xs))) (.ref p) (.tuple ds) :=
  .tup (by rw [rs_out (hS.out n)]; exact upd_same) (h.same (rs_same (same_upd n)))
theorem d_lst {S : List Addr} {H : Hp} {xs : List V} {ds : List PyData} {Q : VK} (hS : Has S H) (h : DtA (rs S H) xs ds) (hz : xs.length ≤ sizeLine) (k : ∀ p H', Same H H' → H p = none → H' p = some (.lst xs) → Dt (rs S H') (.ref p) (.list ds) → Q (.ref p) H') : xs.length ≤ sizeLine ∧ ∀ p, H p = none → Q (.ref p) (upd H p (.lst xs)) :=
  ⟨hz, fun p n => k p _ (same_upd n) n upd_same (dt_new hS n h)⟩
theorem d_tup {S : List Addr} {H : Hp} {xs : List V} {ds : List PyData} {Q : VK} (hS : Has S H) (h : DtA (rs S H) xs ds) (hz : xs.length ≤ sizeLine) (k : ∀ p H', Same H H' → H p = none → H' p = some (.tup xs) → Dt (rs S H') (.ref p) (.tuple ds) → Q (.ref p) H') : xs.length ≤ sizeLine ∧ ∀ p, H p = none → Q (.ref p) (upd H p (.tup xs)) :=
  ⟨hz, fun p n => k p _ (same_upd n) n upd_same (dt_newT hS n h)⟩
theorem d_cat {S : List Addr} {H : Hp} {v w : V} {ds es : List PyData} {Q : VK} (hS : Has S H) (hv : Dt (rs S H) v (.list ds)) (hw : Dt (rs S H) w (.list es)) (hz : ds.length + es.length ≤ sizeLine) (k : ∀ p H', Same H H' → H p = none → Dt (rs S H') (.ref p) (.list (ds ++ es)) → Q (.ref p) H') : rCat v w H Q := by
  obtain ⟨a, xs, rfl, ha, hx⟩ := hv.listE
  obtain ⟨b, ys, rfl, hb, hy⟩ := hw.listE
  exact ⟨a, b, xs, ys, rfl, rfl, (rs_some ha).2, (rs_some hb).2, by rw [hx.len, hy.len]; exact hz, fun p n => k p _ (same_upd n) n (dt_new hS n (hx.app hy))⟩
theorem d_eq {K : PySem.W.Frag} {H : Hp} {v w : V} {d e : PyData} {Q : VK} (hv : Dt H v d) (hw : Dt H w e) (sd : SeqAt.shaped d = true) (se : SeqAt.shaped e = true) (q : Q (.bl (PyData.eqv d e)) H) : rEqD K v w H Q := ⟨d, e, hv.dp, hw.dp, sd, se, q⟩
theorem d_ne {K : PySem.W.Frag} {H : Hp} {v w : V} {d e : PyData} {Q : VK} (hv : Dt H v d) (hw : Dt H w e) (sd : SeqAt.shaped d = true) (se : SeqAt.shaped e = true) (q : Q (.bl (!PyData.eqv d e)) H) : rNeD K v w H Q := ⟨d, e, hv.dp, hw.dp, sd, se, q⟩
/-! ### comprehensions -/
/-- what comes of an item: nothing, or data -/
def Out (S : List Addr) (H : Hp) : Option PyData → Option V → Prop
  | some d, some v => Dt (rs S H) v d
  | none, none => True
  | _, _ => False
def accP (S : List Addr) (H1 : Hp) (D : Addr) (ds : List PyData) (H : Hp) : Prop := Same H1 H ∧ ∃ ys, H D = some (.lst ys) ∧ DtA (rs (D :: S) H) ys ds
theorem acc_step {S : List Addr} {H1 : Hp} {D : Addr} {sel : List (Option PyData)} {i : Nat} {o : Option PyData} {H H4 : Hp} (nD : H1 D = none) (ho : sel[i]? = some o) (hz : sel.length < sizeLine) (h : accP S H1 D ((sel.take i).filterMap id) H) (s4 : Same H H4) :
    ∀ y : Option V, Out (D :: S) H4 o y → match y with
      | some v => ∃ acc, H4 D = some (.lst acc) ∧ acc.length < sizeLine ∧ accP S H1 D ((sel.take (i + 1)).filterMap id) (upd H4 D (.lst (acc ++ [v])))
      | none => accP S H1 D ((sel.take (i + 1)).filterMap id) H4 := by
  obtain ⟨s, ys, hD, hy⟩ := h
  intro y hO
  rw [take_fm ho]
  cases o with
  | none =>
    cases y with
    | none => exact ⟨s.trans s4, ys, s4 _ _ hD, by simpa using hy.same (rs_same s4)⟩
    | some v => exact absurd hO (fun z => z)
  | some d =>
    cases y with
    | none => exact absurd hO (fun z => z)
    | some v =>
      refine ⟨ys, s4 _ _ hD, ?_, same_over nD (s.trans s4), ys ++ [v], upd_same, ?_⟩
      · rw [hy.len]
        exact Nat.lt_of_le_of_lt (fm_len sel i) hz
      · rw [rs_upd List.mem_cons_self]
        exact (hy.same (rs_same s4)).app (.cons hO .nil)
theorem acc_end {S : List Addr} {H1 : Hp} {D : Addr} {ds : List PyData} {H : Hp} (hS : Has S H1) (nD : H1 D = none) (h : accP S H1 D ds H) : Dt (rs S H) (.ref D) (.list ds) := by
  obtain ⟨s, ys, hD, hy⟩ := h
  exact .lst (by rw [rs_out (hS.out nD)]; exact hD) (hy.same over)
theorem lc_dR {lo : Int} {n : Nat} {j : Nat} {tt : TT} {te : TE} {vs : List Nat} {σ : L2.St} {H1 : Hp} {D : Addr} {Qd : Hp → Prop} {S : List Addr} (hS : Has S H1) (sel : List (Option PyData)) (nD : H1 D = none) (hlen : sel.length = n) (hz : n < sizeLine)
    (hw : ∀ x, wipe ((wipe σ vs).set j (some x)) vs = wipe σ vs)
    (hs : ∀ (i : Nat) (o : Option PyData) (H' : Hp), i < n → sel[i]? = some o → Same H1 H' → Has (D :: S) H' → ∀ Qt : Option V → Hp → Prop, (∀ y H'', Same H' H'' → Out (D :: S) H'' o y → Qt y H'') →
      tt ((wipe σ vs).set j (some (.int (lo + (i : Int))))) H' fun b H3 => if b = true then te ((wipe σ vs).set j (some (.int (lo + (i : Int))))) H3 fun y H4 => Qt (some y) H4 else Qt none H3)
    (hd : ∀ H', Same H1 H' → H' D ≠ none → Dt (rs S H') (.ref D) (.list (sel.filterMap id)) → Qd H') :
    ∃ W : Nat → Nat → Hp → Prop, (∃ m, W 0 m (upd H1 D (.lst []))) ∧ ∀ i m H, W i m H →
      ((Itr lo n).stop i H ∧ Qd H) ∨ ((Itr lo n).go i H ∧ ∃ Nx : Hp → Prop, (∀ H', Nx H' → ∃ m', m' < m ∧ W (i + 1) m' H') ∧ ∀ x H', (Itr lo n).yld i H x H' → gName j x (wipe σ vs) H' fun σ2 H2 => wipe σ2 vs = wipe σ vs ∧ tt σ2 H2 fun b H3 =>
        if b = true then te σ2 H3 fun y H4 => ∃ acc, H4 D = some (.lst acc) ∧ acc.length < sizeLine ∧ Nx (upd H4 D (.lst (acc ++ [y]))) else Nx H3) := by
  refine lc_range (lo := lo) (n := n) (fun i H => accP S H1 D ((sel.take i).filterMap id) H) ⟨same_upd nD, [], upd_same, .nil⟩ ?_ ?_
  · rintro i H hi h
    refine ⟨hw _, ?_⟩
    have ho : sel[i]? = some (sel[i]'(by omega)) := List.getElem?_eq_getElem (by omega)
    obtain ⟨s, ys, hD, hy⟩ := id h
    exact hs i _ H hi ho s ((hS.same s).cons hD) (fun o H4 => match o with
      | some y => ∃ acc, H4 D = some (.lst acc) ∧ acc.length < sizeLine ∧ accP S H1 D ((sel.take (i + 1)).filterMap id) (upd H4 D (.lst (acc ++ [y])))
      | none => accP S H1 D ((sel.take (i + 1)).filterMap id) H4) fun y H4 s4 hO => acc_step nD ho (by omega) h s4 y hO
  · rintro H h
    rw [← hlen, List.take_length] at h
    refine hd H h.1 ?_ (acc_end hS nD h)
    obtain ⟨_, ys, hD, _⟩ := h
    rw [hD]
    exact fun z => nomatch z
theorem lc_dL {K : PySem.W.Frag} {a : Addr} {xs : List V} {j : Nat} {tt : TT} {te : TE} {vs : List Nat} {σ : L2.St} {H1 : Hp} {D : Addr} {Qd : Hp → Prop} {S : List Addr} (hS : Has S H1) (sel : List (Option PyData)) (nD : H1 D = none) (hA : SqL K H1 a xs) (hlen : sel.length = xs.length) (hz : xs.length < sizeLine)
    (hw : ∀ x, wipe ((wipe σ vs).set j (some x)) vs = wipe σ vs)
    (hs : ∀ (i : Nat) (x : V) (o : Option PyData) (H' : Hp), xs[i]? = some x → sel[i]? = some o → Same H1 H' → Has (D :: S) H' → ∀ Qt : Option V → Hp → Prop, (∀ y H'', Same H' H'' → Out (D :: S) H'' o y → Qt y H'') →
      tt ((wipe σ vs).set j (some x)) H' fun b H3 => if b = true then te ((wipe σ vs).set j (some x)) H3 fun y H4 => Qt (some y) H4 else Qt none H3)
    (hd : ∀ H', Same H1 H' → H' D ≠ none → Dt (rs S H') (.ref D) (.list (sel.filterMap id)) → Qd H') :
    ∃ W : Nat → Nat → Hp → Prop, (∃ m, W 0 m (upd H1 D (.lst []))) ∧ ∀ i m H, W i m H →
      ((Itl K a).stop i H ∧ Qd H) ∨ ((Itl K a).go i H ∧ ∃ Nx : Hp → Prop, (∀ H', Nx H' → ∃ m', m' < m ∧ W (i + 1) m' H') ∧ ∀ x H', (Itl K a).yld i H x H' → gName j x (wipe σ vs) H' fun σ2 H2 => wipe σ2 vs = wipe σ vs ∧ tt σ2 H2 fun b H3 =>
        if b = true then te σ2 H3 fun y H4 => ∃ acc, H4 D = some (.lst acc) ∧ acc.length < sizeLine ∧ Nx (upd H4 D (.lst (acc ++ [y]))) else Nx H3) := by
  refine lc_list (K := K) (a := a) (xs := xs) (fun i H => accP S H1 D ((sel.take i).filterMap id) H) ⟨same_upd nD, [], upd_same, .nil⟩ (fun i H _ p => p.1.seq hA) ?_ ?_
  · rintro i x H hx h
    refine ⟨hw _, ?_⟩
    have hi := (List.getElem?_eq_some_iff.mp hx).1
    have ho : sel[i]? = some (sel[i]'(by omega)) := List.getElem?_eq_getElem (by omega)
    obtain ⟨s, ys, hD, hy⟩ := id h
    exact hs i x _ H hx ho s ((hS.same s).cons hD) (fun o H4 => match o with
      | some y => ∃ acc, H4 D = some (.lst acc) ∧ acc.length < sizeLine ∧ accP S H1 D ((sel.take (i + 1)).filterMap id) (upd H4 D (.lst (acc ++ [y])))
      | none => accP S H1 D ((sel.take (i + 1)).filterMap id) H4) fun y H4 s4 hO => acc_step nD ho (by omega) h s4 y hO
  · rintro H h
    rw [← hlen, List.take_length] at h
    refine hd H h.1 ?_ (acc_end hS nD h)
    obtain ⟨_, ys, hD, _⟩ := h
    rw [hD]
    exact fun z => nomatch z
/-- maps: each item's data -/
theorem sel_map {α : Type} (l : List α) (f : α → PyData) : (l.map fun x => some (f x)).filterMap id = l.map f := by
  induction l with
  | nil => rfl
  | cons x l ih =>
    show f x :: (l.map fun x => some (f x)).filterMap id = _
    rw [ih]
    rfl
/-- over any walk -/
theorem lc_dW {J : It} {n : Nat} {G : Hp → Prop} {Y : Nat → Hp → V → Hp → Prop} (w : Walk J n G Y) {g : TG} {tt : TT} {te : TE} {vs : List Nat} {σ : L2.St} {H1 : Hp} {D : Addr} {Qd : Hp → Prop} {S : List Addr} (hS : Has S H1) (sel : List (Option PyData)) (nD : H1 D = none) (hlen : sel.length = n) (hz : n < sizeLine)
    (hG : ∀ H', Same H1 H' → G H')
    (hs : ∀ (i : Nat) (o : Option PyData) (H0 : Hp) (x : V) (H' : Hp), i < n → sel[i]? = some o → Same H1 H0 → Has (D :: S) H0 → Y i H0 x H' → ∀ Qt : Option V → Hp → Prop, (∀ y H'', Same H0 H'' → Out (D :: S) H'' o y → Qt y H'') →
      g x (wipe σ vs) H' fun σ2 H2 => wipe σ2 vs = wipe σ vs ∧ tt σ2 H2 fun b H3 => if b = true then te σ2 H3 fun y H4 => Qt (some y) H4 else Qt none H3)
    (hd : ∀ H', Same H1 H' → H' D ≠ none → Dt (rs S H') (.ref D) (.list (sel.filterMap id)) → Qd H') :
    ∃ W : Nat → Nat → Hp → Prop, (∃ m, W 0 m (upd H1 D (.lst []))) ∧ ∀ i m H, W i m H →
      (J.stop i H ∧ Qd H) ∨ (J.go i H ∧ ∃ Nx : Hp → Prop, (∀ H', Nx H' → ∃ m', m' < m ∧ W (i + 1) m' H') ∧ ∀ x H', J.yld i H x H' → g x (wipe σ vs) H' fun σ2 H2 => wipe σ2 vs = wipe σ vs ∧ tt σ2 H2 fun b H3 =>
        if b = true then te σ2 H3 fun y H4 => ∃ acc, H4 D = some (.lst acc) ∧ acc.length < sizeLine ∧ Nx (upd H4 D (.lst (acc ++ [y]))) else Nx H3) := by
  refine lc_it w (fun i H => accP S H1 D ((sel.take i).filterMap id) H) ⟨same_upd nD, [], upd_same, .nil⟩ (fun i H _ p => hG H p.1) ?_ ?_
  · rintro i x H H' hi h y
    have ho : sel[i]? = some (sel[i]'(by omega)) := List.getElem?_eq_getElem (by omega)
    obtain ⟨s, ys, hD, hy⟩ := id h
    exact hs i _ H x H' hi ho s ((hS.same s).cons hD) y (fun o H4 => match o with
      | some y => ∃ acc, H4 D = some (.lst acc) ∧ acc.length < sizeLine ∧ accP S H1 D ((sel.take (i + 1)).filterMap id) (upd H4 D (.lst (acc ++ [y])))
      | none => accP S H1 D ((sel.take (i + 1)).filterMap id) H4) fun y H4 s4 hO => acc_step nD ho (by omega) h s4 y hO
  · rintro H h
    rw [← hlen, List.take_length] at h
    refine hd H h.1 ?_ (acc_end hS nD h)
    obtain ⟨_, ys, hD, _⟩ := h
    rw [hD]
    exact fun z => nomatch z
theorem dt_pairs {K : PySem.W.Frag} {H : Hp} {a : Addr} {ps : List (Int × Int)} (h : Dt H (.ref a) (.list (ps.map pairD))) : PairsAt K H a ps := by
  cases h with
  | lst ha hx =>
    rename_i xs
    have key : ∀ (ps : List (Int × Int)) (xs : List V), DtA H xs (ps.map pairD) → ∃ as : List Addr, xs = as.map V.ref ∧ as.length = ps.length ∧ ∀ (i : Nat) (t : Addr) (p : Int × Int), as[i]? = some t → ps[i]? = some p → SqT K H t [.int p.1, .int p.2] := fun ps => by
      induction ps with
      | nil => intro xs h; cases h; exact ⟨[], rfl, rfl, fun i t p ht => by simp at ht⟩
      | cons p ps ih =>
        intro xs h
        cases h with
        | cons b c =>
          obtain ⟨as, rfl, hl, k⟩ := ih _ c
          obtain ⟨t, ys, rfl, ht, hy⟩ := (show Dt H _ (.tuple [.int p.1, .int p.2]) from b).tupE
          rw [DtA.intsE (ns := [p.1, p.2]) hy] at ht
          refine ⟨t :: as, rfl, by rw [List.length_cons, List.length_cons, hl], fun i u q hu hq => ?_⟩
          cases i with
          | zero =>
            rw [List.getElem?_cons_zero] at hu hq
            cases hu
            cases hq
            exact .inl (.inl ht)
          | succ i =>
            rw [List.getElem?_cons_succ] at hu hq
            exact k i u q hu hq
    obtain ⟨as, rfl, hl, k⟩ := key ps xs hx
    exact ⟨as, .inl (.inl ha), hl, k⟩
end My

namespace My
open PySem PySem.Spec PyProof.Rows L2 Pre
/-! ### promises for callers that stand in no repr: within them repr of lists shows its items -/
structure FnG (P : Program) (w : World) (K : PySem.W.Frag) (mg : Str → Option Value) (base : Heap) (CX : CXT) (k : Nat) (f : Addr) (fd : FuncData) (ps : List Str) (sp : Sp) : Prop where
  many : ∀ xs H Q E, sp xs H Q E → xs.length = ps.length
  does : ∀ (A : Around), A.guards = some [] → Room k A → ∀ (fr : List Env) (t : Shared) (H : Hp), Env0 P w K mg base A fr t H → ∀ (ar : Args) (us : List Value) (xs : List V), BindsTo t fd ar (ps.zip us) → Vals xs us →
    ∀ (Q : VK) (E : XK), sp xs H Q E → codeAny (model P w) A (.call (.ref f) ar) (CR CX fr P w H t Q E) t
section
variable {P : Program} {w : World} {K : PySem.W.Frag} {mg : Str → Option Value} {base : Heap} {CX : CXT} {k : Nat} {f : Addr} {fd : FuncData} {ps : List Str} {sp : Sp}
theorem FnG.of (F : FnOk P w K mg base CX k f fd ps sp) : FnG P w K mg base CX k f fd ps sp :=
  ⟨F.len, fun A _ hr fr t H e ar us xs b v Q E h => F.run A fr t H ar us xs Q E hr e b v h⟩
/-- a body makes a promise -/
theorem FnG.body {x qual : Str} {pr : Arguments} {bd : List Stmt} {sc : Scope} {dvs : List V} {kws : List (Str × V)} {N : List Str} (F : FunD K x qual pr bd sc dvs kws f fd) (S : FnScope N ps sc) (hm : ∀ xs H Q E, sp xs H Q E → xs.length = ps.length)
    (go : ∀ (cv : Value) (A : Around) (fr : List Env) (t : Shared) (H : Hp) (xs : List V) (Q : VK) (E : XK), A.guards = some [] → Room k (A.deeper (envOfC qual sc t.heap.objs.size f cv)) → sp xs H Q E →
      ∃ τ, PSs (cxOf CX P w K mg base N qual sc f cv A fr t H E) bd τ ∧ τ { nx := fun _ H1 => Q .non H1, rt := Q } (start N xs) H) : FnG P w K mg base CX (k + 1) f fd ps sp := by
  obtain ⟨c0, d0, dv, kv, dc, pm, an, cv, ct, sl, rfl, lk, hcode, _, _⟩ := F.ex
  refine ⟨hm, fun A gd hr fr t H e0 ar us xs hb rv Q E hs => ?_⟩
  have hin : K.In t.heap := e0.mod.kin.keeps fun b o z => (e0.bs b o z).1
  have hno : t.heap.NoLimit := e0.mod.nolimit.keeps fun b o z => (e0.bs b o z).1
  refine codeAny_call_function hr.depth (hin _ _ lk) rfl S.co S.gen rfl (PySem.W.codeRec_of hin hcode) (hb _ _ _ _ ?_)
  refine wpAny_newFunctionEnv_cells S.kind (fun y hy => ?_) fun env he t1 hx => ?_
  · obtain ⟨n, u⟩ := y
    rcases S.par n (List.of_mem_zip hy).1 with z | z
    · exact Or.inl z
    · exact Or.inr ⟨z, PySem.W.cellsFrom_some _ _ _ (Or.inl z)⟩
  · subst he
    refine ⟨hno.keeps hx.toInCall.keep, codeAny_func ?_⟩
    obtain ⟨τ, hτ, hq⟩ := go cv A fr t H xs Q E gd (hr.deeper _) hs
    have J := inv_start (CX := CX) (E := E) S hr.hd e0 (hm _ _ _ _ hs) rv hx
    refine wpAny_mono (hτ.run [] t1 (start N xs) H _ J hq) (fun fl t2 h2 => ?_) fun _ _ z => z
    cases fl with
    | brk => exact False.elim h2.choose_spec.choose_spec.2
    | cont => exact False.elim h2.choose_spec.choose_spec.2
    | next =>
      obtain ⟨σ2, H2, J2, q2⟩ := h2
      exact ⟨V.non, H2, J2.os, J2.bare, J2.base, J2.hok, rfl, q2⟩
    | ret u =>
      obtain ⟨v2, σ2, H2, J2, r2, q2⟩ := h2
      exact ⟨v2, H2, J2.os, J2.bare, J2.base, J2.hok, r2, q2⟩
end
section
variable {X : Cx} {CX : CXT} {k : Nat} {f : Addr} {fd : FuncData} {ps : List Str} {sp : Sp} {dvs : List V} {ds : List Value} {E : XK} {x : Str} {p pos : Pos} {e : Expr} {es : List Expr} {t : TA}
theorem go_g {pins : List (Addr × Obj)} {σ : L2.St} {H : Hp} {s : Shared} {Q : VK} {us : List Value} {xs : List V} (F : FnG X.prog X.w X.K X.mg X.base CX k f fd ps sp) (gd : X.A.guards = some []) (hr : Room k X.A) (hb : Binds X.K fd ps ds) (hd : Vals dvs ds)
    (hx : Passes CX X E) (I : Inv X pins σ H s) (r : Vals xs us) (h : sp (xs ++ dvs) H Q E) : wpAny (model X.prog X.w) X.A (call (.ref f) us) (EP X pins σ Q) X.xe s := by
  have rr := Vals.append r hd
  refine wpAny_call (codeAny_mono (F.does X.A gd hr X.stack s H I.env0 ⟨us, []⟩ (us ++ ds) (xs ++ dvs) (hb s us I.kIn (by rw [← rr.length]; exact F.many _ _ _ _ h)) rr Q E h) fun z s2 hz => ?_)
  match z, hz with
  | .error e, hz => exact hx pins σ H s e s2 I hz
  | .ok (.ret u), hz => exact I.after hz
theorem pe_callG (F : FnG X.prog X.w X.K X.mg X.base CX k f fd ps sp) (gd : X.A.guards = some []) (hr : Room k X.A) (hg : Gl X x) (hm : X.mg x = some (.ref f)) (hk : PySem.W.keepIn X.K (.ref f) = true) (hb : Binds X.K fd ps ds) (hd : Vals dvs ds) (hx : Passes CX X E)
    (ha : PA X (e :: es) t) (hdb : (x == ("__debug__" : Str)) = false := by decide) (he : starEach (e :: es) X.env = (false, eval e X.env) :: starEach es X.env := by rfl) (hpl : (backTo pos (starEach es X.env)).any (·.1) = false := by rfl) :
    PE X (.Call (.Name x p) (e :: es) [] pos) (tCall sp dvs E t) :=
  ⟨fun pins s σ H Q I h => wpAny_Call_Name_kw (ld_glob I hg hm (PySem.W.callWith_K (h₀ := X.base) I.ok.mod.kin hk (thn (ha.run pos pins s σ H _ I h) fun us s1 ⟨vs, H1, J, r, q⟩ => ⟨J.kIn, go_g F gd hr hb hd hx J r q⟩) he hpl) hdb)⟩
theorem pe_callG0 (F : FnG X.prog X.w X.K X.mg X.base CX k f fd ps sp) (gd : X.A.guards = some []) (hr : Room k X.A) (hg : Gl X x) (hm : X.mg x = some (.ref f)) (hk : PySem.W.keepIn X.K (.ref f) = true) (hb : Binds X.K fd ps ds) (hd : Vals dvs ds) (hx : Passes CX X E)
    (hdb : (x == ("__debug__" : Str)) = false := by decide) : PE X (.Call (.Name x p) [] [] pos) (tCall sp dvs E tNil) :=
  ⟨fun pins s σ H Q I h => wpAny_Call_Name_kw (ld_glob I hg hm (PySem.W.callWith_K0 I.kIn hk (go_g (us := []) F gd hr hb hd hx I .nil h)) hdb)⟩
end
/-! ### repr -/
def rRepr (K : PySem.W.Frag) : List V → Hp → VK → Prop := fun xs H Q => ∃ (x : V) (d : PyData), xs = [x] ∧ Dp K H x d ∧ d.showable = true ∧ SeqAt.shaped d = true ∧ d.shown.length ≤ sizeLine ∧ Q (.str d.shown) H
theorem call_repr {X : Cx} (gd : X.A.guards = some []) (hu : X.A.units + 65 < cLine) : CallR X (.builtin "repr") (rRepr X.K) := by
  intro pins s σ H xs us Q I r h
  obtain ⟨x, d, rfl, hd, hs, hsh, hl, q⟩ := h
  cases r with
  | cons rx rr =>
    cases rr
    rename_i u
    have hlay : d.canLay0 = true := SeqAt.canLay_of_shaped hsh
    have hdep : d.depth ≤ 64 := by
      have z : (d.canLay0 && decide (d.depth ≤ 64)) = true := hsh
      exact of_decide_eq_true (Bool.and_eq_true_iff.mp z).2
    obtain ⟨as, rd⟩ := Dp.reads I d x u hd rx
    have fin : ∀ h' v tk, (∀ b o, s.heap.get? b = some o → h'.get? b = some o) → EP X pins σ Q (.str d.shown v) { s with heap := h', toks := tk } := fun h' v tk hk => ⟨.str d.shown, H, I.kept hk, ⟨v, rfl⟩, q⟩
    cases hd with
    | non => cases rx; exact PySem.P.repr_of_none (fin _ _ _ fun _ _ z => z)
    | bl b => cases rx; exact PySem.P.repr_of_bool (fin _ _ _ fun _ _ z => z)
    | int i => obtain ⟨t, rfl⟩ := rx; exact PySem.P.repr_of_int (of_decide_eq_true hs) (fin _ _ _ fun _ _ z => z)
    | str y => obtain ⟨t, rfl⟩ := rx; exact PySem.P.repr_of_str (fin _ _ _ fun _ _ z => z) hl
    | lst _ _ => cases rx; exact repr_of_reads' rd hs (PyData.noDict_hsm (PyData.hasDict_of_canLay _ hlay)) gd (by omega) (fun _ _ z => z) fin hl
    | tup _ _ => cases rx; exact repr_of_reads' rd hs (PyData.noDict_hsm (PyData.hasDict_of_canLay _ hlay)) gd (by omega) (fun _ _ z => z) fin hl
theorem k_repr {X : Cx} (K : PySem.W.Frag) (h : X.K = K) (gd : X.A.guards = some []) (hu : X.A.units + 65 < cLine) : CallR X (.builtin "repr") (rRepr K) := by subst h; exact call_repr gd hu
theorem hu65 {k : Nat} {A : Around} (r : Room k A) : A.units + 65 < cLine := by have := r.un; omega
/-- rows of whole numbers, shown -/
theorem dp_ints {K : PySem.W.Frag} {H : Hp} : ∀ ns : List Int, DpAll K H (ns.map V.int) (ns.map PyData.int)
  | [] => .nil
  | n :: ns => .cons (.int n) (dp_ints ns)
theorem dp_row {K : PySem.W.Frag} {H : Hp} {a : Addr} {ns : List Int} (h : SqL K H a (ns.map V.int)) : Dp K H (.ref a) (.list (ns.map PyData.int)) := .lst h (dp_ints ns)
def shownR (ns : List Int) : Str := PyData.shown (.list (ns.map PyData.int))
theorem ints_lay : ∀ ns : List Int, PyData.canLayAll0 (ns.map PyData.int) = true
  | [] => rfl
  | n :: ns => by simp [PyData.canLayAll0, PyData.canLay0, ints_lay ns]
theorem ints_depth : ∀ ns : List Int, PyData.depthAll (ns.map PyData.int) ≤ 1
  | [] => by simp [PyData.depthAll]
  | n :: ns => by
    have := ints_depth ns
    simp only [List.map_cons, PyData.depthAll, PyData.depth]
    omega
theorem row_shaped (ns : List Int) : SeqAt.shaped (.list (ns.map PyData.int)) = true := by
  have h := ints_depth ns
  show (PyData.canLay0 (.list (ns.map PyData.int)) && decide (PyData.depth (.list (ns.map PyData.int)) ≤ 64)) = true
  rw [Bool.and_eq_true]
  exact ⟨by simp only [PyData.canLay0]; exact ints_lay ns, decide_eq_true (by simp only [PyData.depth]; omega)⟩
theorem ints_show : ∀ ns : List Int, (∀ n ∈ ns, n.natAbs.log2 < 1920) → PyData.showableAll (ns.map PyData.int) = true
  | [], _ => rfl
  | n :: ns, h => by
    simp only [List.map_cons, PyData.showableAll, PyData.showable]
    rw [decide_eq_true (h n List.mem_cons_self), ints_show ns fun m hm => h m (List.mem_cons_of_mem _ hm)]
    rfl
/-! ### sorted, any number -/
theorem k_sortedI {X : Cx} (K : PySem.W.Frag) (h : X.K = K) : CallR X (.builtin "sorted") (rSortedI K) := by subst h; exact cr_sortedI
def rSortedA (K : PySem.W.Frag) : List V → Hp → VK → Prop := fun vs H Q => ∃ (a : Addr) (xs : List Str), vs = [V.ref a] ∧ SqL K H a (xs.map V.str) ∧ ∀ (ys : List Str) (p : Addr), ys.Perm xs → sortedS ys = true → H p = none → Q (.ref p) (upd H p (.lst (ys.map V.str)))
theorem k_sortedS {X : Cx} (K : PySem.W.Frag) (h : X.K = K) : CallR X (.builtin "sorted") (rSortedA K) := by
  subst h
  intro pins s σ H vs us Q I r h
  obtain ⟨a, xs, rfl, hs, q⟩ := h
  obtain ⟨its, rv, hl, hz⟩ := I.list hs
  rw [Vals.ref1 r]
  refine sorted_strsAny hl.isList rv.strs (by rw [← rv.length]; exact hz) fun out ys h1 h2 h3 => ?_
  obtain ⟨ep, at_⟩ := sortedAll_at s.heap its out
  refine ⟨.ref _, upd H (s.heap.objs.size + 1) (.lst (ys.map V.str)), I.laid (t' := s.toks) (fun _ _ => sortedAll_old) (Nat.le_succ _) ⟨?_, out.toList, ep, vals_of_strs h1, at_⟩, rfl, q ys _ h2 h3 (I.hok.fresh (Nat.le_succ _))⟩
  rw [List.length_map, h2.length_eq]
  rw [List.length_map] at hz
  exact hz
theorem sorted_le : ∀ (l : List Str) (p : Str), risingS p l = true → (p :: l).Pairwise fun x y => x.cps.toList ≤ y.cps.toList
  | [], p, _ => List.pairwise_singleton _ _
  | x :: r, p, h => by
    obtain ⟨h1, h2⟩ := Bool.and_eq_true_iff.mp (show (!ltCps x.cps.toList p.cps.toList && risingS x r) = true from h)
    have hpx : p.cps.toList ≤ x.cps.toList := by
      rw [ltCps_eq] at h1
      intro z
      rw [decide_eq_true z] at h1
      cases h1
    have ih := sorted_le r x h2
    refine List.pairwise_cons.mpr ⟨fun y hy => ?_, ih⟩
    rcases List.mem_cons.mp hy with rfl | hy
    · exact hpx
    · exact List.le_trans hpx ((List.pairwise_cons.mp ih).1 y hy)
theorem sorted_uniq {xs ys : List Str} (h : xs.Perm ys) (hx : sortedS xs = true) (hy : sortedS ys = true) : xs = ys := by
  have pw : ∀ l : List Str, sortedS l = true → l.Pairwise fun x y => x.cps.toList ≤ y.cps.toList := fun l hl => by
    cases l with
    | nil => exact .nil
    | cons x r => exact sorted_le r x hl
  refine List.Perm.eq_of_pairwise (fun x y _ _ h1 h2 => ?_) (pw _ hx) (pw _ hy) h
  have e := List.le_antisymm h1 h2
  cases x with | mk a => cases y with | mk b => exact congrArg Str.mk (Array.toList_inj.mp e)
end My

namespace My
open PySem PySem.Spec PyProof.Rows L2 Pre
/-! ### the end of a law whose promise stands in no repr -/
/-- the script, tracked or one of the module's own objects -/
theorem script_env {P : Program} {w : World} {K : PySem.W.Frag} {mg mb : Str → Option Value} {a : Addr} {t : Shared} {us : List Value} {ns : List Int} (hin : K.In t.heap) (hgl : t.heap.Ns mainGlobals mg) (hbl : t.heap.Ns builtinsNs mb)
    (hbo : ∀ x : Str, x ≠ "__name__" → mb x = bootBuiltins x) (hno : t.heap.NoLimit) (hgs : t.gens = #[]) (at_a : t.heap.get? a = some { cls := .type "list", data := .seq us.toArray }) (ints_ : IntsAre us ns) (few : ns.length ≤ sizeLine) :
    ∃ (H : Hp) (base : Heap), Only H ∧ SqL K H a (ns.map V.int) ∧ K.In base ∧ base.Ns mainGlobals mg ∧ Env0 P w K mg base callerA [] t H := by
  have rv := vals_ints ints_
  have ul := ints_.length
  -- the module and the rest of the heap, whatever is tracked at a alone
  have rest : ∀ H : Hp, Only H → (∀ b, b ≠ a → H b = none) → (H a = none ∨ K.lookup a = none) → HOk P w H t.heap → SqL K H a (ns.map V.int) → ∃ (H : Hp) (base : Heap), Only H ∧ SqL K H a (ns.map V.int) ∧ K.In base ∧ base.Ns mainGlobals mg ∧ Env0 P w K mg base callerA [] t H := by
    intro H h1 h2 h3 h4 h5
    have dictFree : ∀ b o, t.heap.get? b = some o → (∃ es n, o.data = Data.dict es n) → H b = none := fun b o z ⟨es, n, d⟩ => by
      by_cases hb : b = a
      · rw [hb, at_a] at z
        cases z
        cases d
      · exact h2 b hb
    have nsKept : ∀ (b : Addr) (m : Str → Option Value), t.heap.Ns b m → (hidT t.heap H).Ns b m := fun b m z => by
      obtain ⟨o, es, ep, z1, z2, z3⟩ := z
      exact ⟨o, es, ep, hidT_get z1 (dictFree b o z1 ⟨_, _, z2⟩), z2, z3⟩
    have inKept : K.In (hidT t.heap H) := fun b o z => hidT_get (hin b o z) (by
      by_cases hb : b = a
      · rcases h3 with z3 | z3
        · rw [hb]; exact z3
        · rw [hb, z3] at z; cases z
      · exact h2 b hb)
    obtain ⟨mc, l1, l2⟩ := hno
    refine ⟨H, hidT t.heap H, h1, h5, inKept, nsKept _ _ hgl, ⟨rfl, ⟨inKept, nsKept _ _ hgl, ⟨mb, nsKept _ _ hbl, hbo⟩, ⟨mc, nsKept _ _ l1, l2⟩⟩, fun b o z => of_hidT z, ?_, trivial, fun b z => (nomatch z), h4, .of_eq hgs⟩⟩
    rw [hidT_size]
    exact Nat.le_refl _
  cases hk : K.lookup a with
  | some o =>
    have z := hin a o hk
    rw [at_a] at z
    cases z
    exact rest (fun _ => none) (fun _ => .inl rfl) (fun _ _ => rfl) (.inl rfl) (fun _ _ z => nomatch z) (.inr ⟨_, us.toArray, _, hk, rfl, rfl, rfl, by rw [List.size_toArray, ul]; exact few, by simpa using rv⟩)
  | none =>
    refine rest (upd (fun _ => none) a (.frz { cls := .type "list", data := .seq us.toArray } (.lst (ns.map V.int)))) (fun b => ?_) (fun b hb => upd_ne hb) (.inr hk) (fun b u z => ?_) (.inl (.inr ⟨_, upd_same⟩))
    · by_cases hb : b = a
      · rw [hb]; exact .inr ⟨_, _, upd_same⟩
      · exact .inl (upd_ne hb)
    · by_cases hb : b = a
      · subst hb
        rw [upd_same] at z
        cases z
        exact ⟨at_a, by rw [List.length_map]; exact few, us, _, rv, at_a⟩
      · rw [upd_ne hb] at z
        cases z
theorem end_g {l : PySem.W.OpenLaw} {n k : Nat} {q : Program} {loose : List Str} {XP : (Str → Option Value) → Heap → Prop} {YP : World → Heap → Prop} {d : DefRec} {x : Str} (hn : l.most = some n) (hn2 : n ≤ sizeLine) (hdf : d.params.defaults = []) (hr : Room k callerA)
    (F : ∀ (w : World) (mg : Str → Option Value) (fa : Addr) (h : Heap), YP w h → h.Ns mainGlobals mg → mg d.name = some (.ref fa) →
      ∃ (K : PySem.W.Frag) (fd : FuncData) (sp : Sp), K.In h ∧ (∀ (s : Shared) (u : Value), BindsTo s fd ⟨[u], []⟩ [(x, u)]) ∧
        (∀ (H : Hp) (a : Addr) (ns : List Int), ns.length ≤ n → SqL K H a (ns.map V.int) → sp [.ref a] H (fun v _ => v = .bl true) fun _ _ _ => False) ∧
        ∀ base : Heap, K.In base → base.Ns mainGlobals mg → FnG l.prog w K mg base CX0 k fa fd [x] sp) :
    PySem.W.WalkO q loose XP YP l.row.toRowW d [] (fun f vs => PySem.call f vs) := by
  refine Att.attach_call hn hdf fun w s₀ t mg mb fa o pm cd doc a us ns G Y ho hd hcd hmg at_a hi hl hg => ?_
  obtain ⟨K, fd, sp, hin, hb, hsp, hF⟩ := F w mg fa _ Y G.T.g hmg
  obtain ⟨H, base, only, hS, hKb, hgb, e0⟩ := script_env (P := l.prog) (w := w) hin G.T.g G.T.b G.T.builtins G.T.nolimit hg at_a hi (Nat.le_trans hl hn2)
  refine codeAny_mono ((hF base hKb hgb).does callerA rfl hr [] t H e0 ⟨[.ref a], []⟩ [.ref a] [.ref a] (hb t (.ref a)) (.cons rfl .nil) _ _ (hsp H a ns hl hS)) fun r t2 h => ?_
  match r, h with
  | .error e, h => exact (show False from h).elim
  | .ok (.ret u), h =>
    obtain ⟨v, H2, os, bare, un, hok2, rv, qv⟩ := h
    have qv : v = .bl true := qv
    subst qv
    have rv : u = Value.bool true := rv
    subst rv
    refine ⟨rfl, OldK.of_keep fun b o z => ?_, os, bare⟩
    rcases only b with hb | ⟨ob, ys, hb⟩
    · exact un.keep b o z hb (fun y => nomatch y) (fun y => nomatch y)
    · have z1 : t.heap.get? b = some ob := (e0.hok b _ hb).1
      have z2 : t2.heap.get? b = some ob := (hok2 b _ (un.frzs b ob _ hb)).1
      rw [z] at z1
      cases z1
      exact z2
end My

namespace My
/-! ### the mathematics: prices by widths -/
def price (ns : List Int) (w : Nat) : Int := (ns.map fun n => n / 2 ^ w + 1 + (w : Int)).sum
def cc (ns : List Int) (w : Nat) : Int := (ns.map fun n => (n + 2 ^ w) / 2 ^ (w + 1)).sum
def Folds (ns : List Int) : Prop := ∀ n ∈ ns, 0 ≤ n ∧ n < 2 ^ 40
theorem half_step (n : Int) (w : Nat) : n / 2 ^ w - n / 2 ^ (w + 1) = (n + 2 ^ w) / 2 ^ (w + 1) := by
  have hp := pow_pos' w
  have e1 : n / 2 ^ (w + 1) = n / 2 ^ w / 2 := by
    rw [Int.pow_succ, Int.ediv_ediv_of_nonneg (Int.le_of_lt hp)]
  have e2 : (n + 2 ^ w) / 2 ^ (w + 1) = (n / 2 ^ w + 1) / 2 := by
    rw [Int.pow_succ, ← Int.ediv_ediv_of_nonneg (Int.le_of_lt hp), Int.add_ediv_of_dvd_right (Int.dvd_refl _), Int.ediv_self (Int.ne_of_gt hp)]
  rw [e1, e2]
  omega
theorem price_step : ∀ (ns : List Int) (w : Nat), price ns (w + 1) = price ns w + ns.length - cc ns w
  | [], _ => rfl
  | n :: r, w => by
    have ih := price_step r w
    have h := half_step n w
    unfold price cc at ih ⊢
    simp only [List.map_cons, List.sum_cons, List.length_cons]
    rw [ih]
    push_cast
    omega
theorem cc_anti : ∀ (ns : List Int), (∀ n ∈ ns, 0 ≤ n) → ∀ w, cc ns (w + 1) ≤ cc ns w
  | [], _, _ => Int.le_refl _
  | n :: r, h, w => by
    have ih := cc_anti r (fun x hx => h x (List.mem_cons_of_mem _ hx)) w
    have hn := h n List.mem_cons_self
    have hp := pow_pos' w
    have e1 : (n + 2 ^ w) / 2 ^ (w + 1) = (n / 2 ^ w + 1) / 2 := by
      rw [Int.pow_succ, ← Int.ediv_ediv_of_nonneg (Int.le_of_lt hp), Int.add_ediv_of_dvd_right (Int.dvd_refl _), Int.ediv_self (Int.ne_of_gt hp)]
    have hp2 := pow_pos' (w + 1)
    have e2 : (n + 2 ^ (w + 1)) / 2 ^ (w + 1 + 1) = (n / 2 ^ (w + 1) + 1) / 2 := by
      rw [Int.pow_succ 2 (w + 1), ← Int.ediv_ediv_of_nonneg (Int.le_of_lt hp2), Int.add_ediv_of_dvd_right (Int.dvd_refl _), Int.ediv_self (Int.ne_of_gt hp2)]
    have e3 : n / 2 ^ (w + 1) = n / 2 ^ w / 2 := by
      rw [Int.pow_succ, Int.ediv_ediv_of_nonneg (Int.le_of_lt hp)]
    have hq : 0 ≤ n / 2 ^ w := Int.ediv_nonneg hn (Int.le_of_lt hp)
    unfold cc at ih ⊢
    simp only [List.map_cons, List.sum_cons]
    rw [e1, e2, e3]
    omega
theorem cc_le (ns : List Int) (h : ∀ n ∈ ns, 0 ≤ n) (v : Nat) : ∀ d, cc ns (v + d) ≤ cc ns v
  | 0 => Int.le_refl _
  | d + 1 => Int.le_trans (cc_anti ns h (v + d)) (cc_le ns h v d)
theorem cc_40 : ∀ (ns : List Int), Folds ns → cc ns 40 = 0
  | [], _ => rfl
  | n :: r, h => by
    have ih := cc_40 r fun x hx => h x (List.mem_cons_of_mem _ hx)
    have hn := h n List.mem_cons_self
    have e : (n + 2 ^ 40) / 2 ^ (40 + 1) = 0 := Int.ediv_eq_zero_of_lt (by omega) (by omega)
    unfold cc at ih ⊢
    simp only [List.map_cons, List.sum_cons]
    rw [ih, e]
    rfl
theorem Folds.nn {ns : List Int} (h : Folds ns) : ∀ n ∈ ns, 0 ≤ n := fun n hn => (h n hn).1
/-- m is the least price, f the first and l the last width that has it -/
structure IsLeast (ns : List Int) (m : Int) (f l : Nat) : Prop where
  fl : f ≤ l
  l40 : l ≤ 40
  at_ : ∀ w, f ≤ w → w ≤ l → price ns w = m
  lo : ∀ w, w < f → m < price ns w
  hi : ∀ w, l < w → m < price ns w
theorem IsLeast.le {ns : List Int} {m : Int} {f l : Nat} (h : IsLeast ns m f l) (w : Nat) : m ≤ price ns w := by
  by_cases h1 : w < f
  · exact Int.le_of_lt (h.lo w h1)
  · by_cases h2 : l < w
    · exact Int.le_of_lt (h.hi w h2)
    · exact Int.le_of_eq (h.at_ w (by omega) (by omega)).symm
theorem IsLeast.uniq {ns : List Int} {m m' : Int} {f l f' l' : Nat} (a : IsLeast ns m f l) (b : IsLeast ns m' f' l') : m = m' ∧ f = f' ∧ l = l' := by
  have e : m = m' := Int.le_antisymm (by rw [← b.at_ f' (Nat.le_refl _) b.fl]; exact a.le f') (by rw [← a.at_ f (Nat.le_refl _) a.fl]; exact b.le f)
  subst e
  have z : ∀ {f l f' l' : Nat}, IsLeast ns m f l → IsLeast ns m f' l' → f ≤ f' ∧ l' ≤ l := fun {f l f' l'} a b => by
    constructor
    · by_cases h : f ≤ f'
      · exact h
      · have h1 := a.lo f' (by omega)
        rw [b.at_ f' (Nat.le_refl _) b.fl] at h1
        omega
    · by_cases h : l' ≤ l
      · exact h
      · have h1 := a.hi l' (by omega)
        rw [b.at_ l' b.fl (Nat.le_refl _)] at h1
        omega
  have h1 := z a b
  have h2 := z b a
  omega
theorem fall (ns : List Int) (f : Nat) (h : ∀ w, w < f → (ns.length : Int) < cc ns w) : ∀ d, d ≤ f → 0 < d → price ns f < price ns (f - d)
  | 0, _, h0 => absurd h0 (by omega)
  | d + 1, hd, _ => by
    have e := price_step ns (f - (d + 1))
    have hw := h (f - (d + 1)) (by omega)
    have e2 : f - (d + 1) + 1 = f - d := by omega
    rw [e2] at e
    by_cases h0 : d = 0
    · subst h0
      rw [Nat.sub_zero] at e
      omega
    · have ih := fall ns f h d (by omega) (by omega)
      omega
theorem rise (ns : List Int) (nn : ∀ n ∈ ns, 0 ≤ n) (v : Nat) (h : cc ns v < ns.length) : ∀ d, price ns v < price ns (v + d + 1)
  | 0 => by
    have e := price_step ns v
    show price ns v < price ns (v + 1)
    omega
  | d + 1 => by
    have ih := rise ns nn v h d
    have e := price_step ns (v + d + 1)
    have c := cc_le ns nn v (d + 1)
    have c' : cc ns (v + d + 1) ≤ cc ns v := c
    show price ns v < price ns (v + d + 1 + 1)
    omega
/-- what the program's two loops find is the least price -/
theorem told_least (ns : List Int) (hF : Folds ns) (ne : ns ≠ []) (f l : Nat) (hf : cc ns f ≤ ns.length) (hlo : ∀ w, w < f → (ns.length : Int) < cc ns w) (hfl : f ≤ l) (hat : ∀ w, f ≤ w → w ≤ l → price ns w = price ns f)
    (hne : price ns (l + 1) ≠ price ns f) : IsLeast ns (price ns f) f l := by
  have hlen : 0 < ns.length := by cases ns with | nil => exact absurd rfl ne | cons _ _ => simp
  have c40 := cc_40 ns hF
  have hf40 : f ≤ 40 := by
    by_cases h : f ≤ 40
    · exact h
    · have := hlo 40 (by omega)
      omega
  have el := hat l hfl (Nat.le_refl _)
  have hcl : cc ns l < ns.length := by
    have e := price_step ns l
    obtain ⟨d, rfl⟩ : ∃ d, l = f + d := ⟨l - f, by omega⟩
    have c := cc_le ns hF.nn f d
    omega
  refine ⟨hfl, ?_, hat, fun w hw => ?_, fun w hw => ?_⟩
  · by_cases h : l ≤ 40
    · exact h
    · have e : price ns 41 = price ns 40 + ns.length - cc ns 40 := price_step ns 40
      have h1 := hat 40 hf40 (by omega)
      have h2 := hat 41 (by omega) (by omega)
      omega
  · have h := fall ns f hlo (f - w) (by omega) (by omega)
    rw [show f - (f - w) = w by omega] at h
    exact h
  · obtain ⟨d, rfl⟩ : ∃ d, w = l + d + 1 := ⟨w - l - 1, by omega⟩
    have h := rise ns hF.nn l hcl d
    omega
theorem least_ex (P : Nat → Prop) [DecidablePred P] : ∀ n, P n → ∃ k, P k ∧ k ≤ n ∧ ∀ w, w < k → ¬ P w := by
  intro n
  induction n using Nat.strongRecOn with
  | _ n ih =>
    intro hn
    by_cases h : ∃ w, w < n ∧ P w
    · obtain ⟨w, hw, pw⟩ := h
      obtain ⟨k, a, b, c⟩ := ih w hw pw
      exact ⟨k, a, by omega, c⟩
    · exact ⟨n, hn, Nat.le_refl _, fun w hw pw => h ⟨w, hw, pw⟩⟩
theorem least_is (ns : List Int) (hF : Folds ns) (ne : ns ≠ []) : ∃ m f l, IsLeast ns m f l := by
  have hlen : 0 < ns.length := by cases ns with | nil => exact absurd rfl ne | cons _ _ => simp
  have c40 := cc_40 ns hF
  obtain ⟨f, h1, h2, h3⟩ := least_ex (fun w => cc ns w ≤ ns.length) 40 (by show cc ns 40 ≤ ns.length; omega)
  obtain ⟨l, g1, g2, g3⟩ := least_ex (fun w => f ≤ w ∧ price ns (w + 1) ≠ price ns f) 40 ⟨h2, by
    have r := rise ns hF.nn 40 (by omega) 0
    have q : price ns f ≤ price ns 40 := by
      obtain ⟨d, hd⟩ : ∃ d, 40 = f + d := ⟨40 - f, by omega⟩
      have up : ∀ d, price ns f ≤ price ns (f + d) := fun d => by
        induction d with
        | zero => exact Int.le_refl _
        | succ d ih =>
          have e := price_step ns (f + d)
          have c := cc_le ns hF.nn f d
          show price ns f ≤ price ns (f + d + 1)
          omega
      rw [hd]
      exact up d
    have r' : price ns 40 < price ns 41 := r
    show price ns 41 ≠ price ns f
    omega⟩
  refine ⟨_, f, l, told_least ns hF ne f l h1 (fun w hw => by have := h3 w hw; omega) g1.1 (fun w hw hl => ?_) g1.2⟩
  have key : ∀ d, f + d ≤ l → price ns (f + d) = price ns f := fun d => by
    induction d with
    | zero => intro _; rfl
    | succ d ih =>
      intro hd
      have := g3 (f + d) (by omega)
      by_cases hq : price ns (f + d + 1) = price ns f
      · exact hq
      · exact absurd ⟨by omega, hq⟩ this
  have := key (w - f) (by omega)
  rw [show f + (w - f) = w by omega] at this
  exact this
/-- what the law finds over 45 widths -/
theorem law_least (ns : List Int) (m0 : Int) (f0 l0 : Nat) (h : IsLeast ns m0 f0 l0) (m : Int) (hm : m ∈ (List.range 45).map (price ns)) (hle : ∀ y ∈ (List.range 45).map (price ns), m ≤ y) :
    m = m0 ∧ ((List.range 45).filter fun w => decide (price ns w = m)) = (List.range (l0 + 1 - f0)).map (fun d => f0 + d) := by
  have e : m = m0 := by
    obtain ⟨w, hw, ew⟩ := List.mem_map.mp hm
    have a := h.le w
    have b := hle (price ns f0) (List.mem_map.mpr ⟨f0, List.mem_range.mpr (by have := h.fl; have := h.l40; omega), rfl⟩)
    rw [h.at_ f0 (Nat.le_refl _) h.fl] at b
    omega
  refine ⟨e, ?_⟩
  subst e
  have e1 : (List.range 45).filter (fun w => decide (price ns w = m)) = (List.range 45).filter (fun w => decide (f0 ≤ w ∧ w ≤ l0)) := by
    refine List.filter_congr fun w _ => ?_
    have : price ns w = m ↔ f0 ≤ w ∧ w ≤ l0 := by
      constructor
      · intro hp
        constructor
        · by_cases q : f0 ≤ w
          · exact q
          · have := h.lo w (by omega); omega
        · by_cases q : w ≤ l0
          · exact q
          · have := h.hi w (by omega); omega
      · rintro ⟨a, b⟩
        exact h.at_ w a b
    simp only [this]
  rw [e1]
  have hfl := h.fl
  have h40 := h.l40
  have key : ∀ n, (List.range n).filter (fun w => decide (f0 ≤ w ∧ w ≤ l0)) = (List.range (min n (l0 + 1) - f0)).map (fun d => f0 + d) := fun n => by
    induction n with
    | zero => simp
    | succ n ih =>
      rw [List.range_succ, List.filter_append, ih]
      by_cases c : f0 ≤ n ∧ n ≤ l0
      · rw [List.filter_cons_of_pos (by simpa using c)]
        rw [show min (n + 1) (l0 + 1) - f0 = (min n (l0 + 1) - f0) + 1 by omega, List.range_succ, List.map_append]
        simp
        omega
      · rw [List.filter_cons_of_neg (by simpa using c)]
        rw [show min (n + 1) (l0 + 1) - f0 = (min n (l0 + 1) - f0) by omega]
        simp
  rw [key 45, show min 45 (l0 + 1) - f0 = l0 + 1 - f0 by omega]
theorem price_app (a b : List Int) (w : Nat) : price (a ++ b) w = price a w + price b w := by
  unfold price
  rw [List.map_append, List.sum_append]
theorem price_rev (a : List Int) (w : Nat) : price a.reverse w = price a w := by
  unfold price
  rw [List.map_reverse, List.sum_reverse]
theorem IsLeast.rev {a : List Int} {m : Int} {f l : Nat} (h : IsLeast a m f l) : IsLeast a.reverse m f l :=
  ⟨h.fl, h.l40, fun w x y => by rw [price_rev]; exact h.at_ w x y, fun w x => by rw [price_rev]; exact h.lo w x, fun w x => by rw [price_rev]; exact h.hi w x⟩
theorem convex {ns : List Int} (h : Folds ns) (w : Nat) : ¬ price ns (w + 2) - price ns (w + 1) < price ns (w + 1) - price ns w := by
  have a := price_step ns w
  have b := price_step ns (w + 1)
  have c := cc_anti ns h.nn w
  have b' : price ns (w + 2) = price ns (w + 1) + ns.length - cc ns (w + 1) := b
  omega
/-- a sum of prices, as the program says it -/
theorem price_raw : ∀ (ns : List Int) (w : Nat), (ns.length : Int) * ((w : Int) + 1) + (ns.map fun n => n / 2 ^ w).sum = price ns w
  | [], w => by simp [price]
  | n :: r, w => by
    have ih := price_raw r w
    unfold price at ih ⊢
    simp only [List.map_cons, List.sum_cons, List.length_cons]
    rw [← ih]
    push_cast
    rw [Int.add_mul]
    omega
def minI : List Int → Int
  | [] => 0
  | x :: xs => xs.foldl min x
def maxI : List Int → Int
  | [] => 0
  | x :: xs => xs.foldl max x
theorem fold_min : ∀ (xs : List Int) (x : Int), xs.foldl min x ∈ x :: xs ∧ ∀ y ∈ x :: xs, xs.foldl min x ≤ y
  | [], x => ⟨List.mem_cons_self, fun y hy => by rw [List.mem_singleton.mp hy]; exact Int.le_refl _⟩
  | a :: xs, x => by
    obtain ⟨h1, h2⟩ := fold_min xs (min x a)
    show xs.foldl min (min x a) ∈ _ ∧ ∀ y ∈ x :: a :: xs, xs.foldl min (min x a) ≤ y
    have h3 := h2 (min x a) List.mem_cons_self
    refine ⟨?_, fun y hy => ?_⟩
    · rcases List.mem_cons.mp h1 with e | e
      · rw [e]
        rcases Int.le_total x a with h | h
        · rw [Int.min_eq_left h]; exact List.mem_cons_self
        · rw [Int.min_eq_right h]; exact List.mem_cons_of_mem _ List.mem_cons_self
      · exact List.mem_cons_of_mem _ (List.mem_cons_of_mem _ e)
    · rcases List.mem_cons.mp hy with rfl | hy
      · omega
      · rcases List.mem_cons.mp hy with rfl | hy
        · omega
        · exact h2 y (List.mem_cons_of_mem _ hy)
theorem fold_max : ∀ (xs : List Int) (x : Int), xs.foldl max x ∈ x :: xs ∧ ∀ y ∈ x :: xs, y ≤ xs.foldl max x
  | [], x => ⟨List.mem_cons_self, fun y hy => by rw [List.mem_singleton.mp hy]; exact Int.le_refl _⟩
  | a :: xs, x => by
    obtain ⟨h1, h2⟩ := fold_max xs (max x a)
    show xs.foldl max (max x a) ∈ _ ∧ ∀ y ∈ x :: a :: xs, y ≤ xs.foldl max (max x a)
    have h3 := h2 (max x a) List.mem_cons_self
    refine ⟨?_, fun y hy => ?_⟩
    · rcases List.mem_cons.mp h1 with e | e
      · rw [e]
        rcases Int.le_total x a with h | h
        · rw [Int.max_eq_right h]; exact List.mem_cons_of_mem _ List.mem_cons_self
        · rw [Int.max_eq_left h]; exact List.mem_cons_self
      · exact List.mem_cons_of_mem _ (List.mem_cons_of_mem _ e)
    · rcases List.mem_cons.mp hy with rfl | hy
      · omega
      · rcases List.mem_cons.mp hy with rfl | hy
        · omega
        · exact h2 y (List.mem_cons_of_mem _ hy)
theorem min_uniq {l : List Int} {m : Int} (h1 : m ∈ l) (h2 : ∀ y ∈ l, m ≤ y) : m = minI l := by
  cases l with
  | nil => cases h1
  | cons x xs =>
    obtain ⟨h3, h4⟩ := fold_min xs x
    exact Int.le_antisymm (h2 _ h3) (h4 _ h1)
theorem max_uniq {l : List Int} {m : Int} (h1 : m ∈ l) (h2 : ∀ y ∈ l, y ≤ m) : m = maxI l := by
  cases l with
  | nil => cases h1
  | cons x xs =>
    obtain ⟨h3, h4⟩ := fold_max xs x
    exact Int.le_antisymm (h4 _ h1) (h2 _ h3)
theorem price_take (ns : List Int) (w : Nat) {i : Nat} {n : Int} (h : ns[i]? = some n) : price (ns.take (i + 1)) w = price (ns.take i) w + n / 2 ^ w + 1 + (w : Int) := by
  unfold price
  rw [List.take_add_one, h, List.map_append, List.sum_append]
  show _ + ([n / 2 ^ w + 1 + (w : Int)]).sum = _
  rw [List.sum_singleton]
  omega
end My

namespace My
open PySem PySem.Spec PyProof.Rows L2 Pre
section
variable {P : Program} {w : World} {K : PySem.W.Frag} {mg : Str → Option Value} {base : Heap}
def sp_check_number : Sp := fun vs H Q _ => ∃ (i lo : Int) (hi : Option Int), vs = [.int i, .int lo, hiV hi] ∧ lo ≤ i ∧ (∀ j, hi = some j → i ≤ j) ∧ Q .non H
theorem G_check_number (T : Top K mg) : FnOk P w K mg base CX0 3 T.f_check_number T.fd_check_number ["number", "low", "high"] sp_check_number := by
  refine T.F_check_number.ok sc_check_number (fun vs H Q E h => by obtain ⟨i, lo, hi, rfl, _⟩ := h; rfl) (fun cdv A outer s H vs Q E hr h => ?_)
  obtain ⟨i, lo, hi, rfl, h0, h1, q⟩ := h
  refine ⟨_, PSs.nox (pss_one (ps_if (pt_not (pt_val (pe_call (G_is_between T) (hr.mono (by decide)) (by rfl) T.g_is_between T.F_is_between.kp T.b_is_between .nil pass0 (pa_cons (pv 0) (pa_cons (pv 1) (pa_cons (pv 2) pa_nil))))))
    (pss_one ps_never)
    pss_nil)), ?_⟩
  refine ⟨_, rfl, _, rfl, _, rfl, .int i, lo, hi, true, rfl, .inl ⟨i, rfl, (decide_eq_true ⟨h0, h1⟩).symm⟩, _, rfl, ?_⟩
  exact iteF q
def sp_check_folds (K : PySem.W.Frag) : Sp := fun vs H Q _ => ∃ (a : Addr) (ns : List Int), vs = [.ref a] ∧ SqL K H a (ns.map V.int) ∧ (∃ u, Rd H a u ∧ ∃ xs, u = .lst xs) ∧ (∀ n ∈ ns, 0 ≤ n) ∧ ns.length < sizeLine ∧ ∀ H', Same H H' → Q .non H'
theorem rd_ty {H : Hp} {a : Addr} {u : HO} {xs : List V} (h : Rd H a u) (e : u = .lst xs) : TyX K H (.ref a) (.type "list") := by
  subst e
  rcases h with h | ⟨o, h⟩
  · exact .base (.lst h)
  · exact .base (.frz h)
theorem G_check_folds (T : Top K mg) : FnOk P w K mg base CX0 3 T.f_check_folds T.fd_check_folds ["folds"] (sp_check_folds K) := by
  refine T.F_check_folds.ok sc_check_folds (fun vs H Q E h => by obtain ⟨a, ns, rfl, _⟩ := h; rfl) (fun cdv A outer s H vs Q E hr h => ?_)
  obtain ⟨a, ns, rfl, hS, ⟨u, hu, xs, eu⟩, nn, hz, q⟩ := h
  refine ⟨_, PSs.nox (pss_one (ps_if (PW.pt (pw_or (pt_not (pt_val (pe_callB (k_isi K rfl) (by rfl) T.n_isinstance (by decide +kernel) (pa_cons (pv 0) (pa_cons (pe_bltn (v := .ty "list") (by rfl) T.n_list (by decide +kernel) rfl) pa_nil))))) (pw_or1 (pt_cmpR (k_neD K rfl hr.units) (pe_lc (own := [("unit", 1)]) (g := gName 1) (by rfl) sc_check_folds.nd (k_piL K rfl (pv 0)) (blkOk_by (own := [("unit", 1)]) (N := N_check_folds) (sc := defScope s_check_folds) (by decide +kernel)) (fun _ _ _ _ _ => (pg_name (i := 1) sc_check_folds.nd rfl (by first | exact Or.inl rfl | exact Or.inr rfl))) (fun _ _ _ _ _ => (pts_one (pt_not (pt_val (pe_call (G_is_between T) (hr.mono (by decide)) (by rfl) T.g_is_between T.F_is_between.kp T.b_is_between .nil pass0 (pa_cons (pv 1) (pa_cons pe_int (pa_cons pe_non pa_nil)))))))) (fun _ _ _ _ _ => (pv 1))) (pe_lst pa_nil) (nomark _)))))
    (pss_one ps_never)
    pss_nil)), ?_⟩
  refine ⟨_, rfl, _, _, _, _, true, rfl, .ty _, rd_ty hu eu, kit_ty (by decide +kernel), true, rfl, iteF ?_⟩
  refine ⟨_, rfl, a, rfl, ⟨_, hS⟩, fun D nD => ?_⟩
  refine lc_selL (K := K) (xs := ns.map V.int) (ns.map fun _ => none) nD hS (by rw [List.length_map, List.length_map]) (by rw [List.length_map]; exact hz) (fun x => rfl) ?_ ?_
  · intro i x o H' hx ho s Qt qt
    obtain ⟨n, hn, rfl⟩ : ∃ n, ns[i]? = some n ∧ V.int n = x := by
      rw [List.getElem?_map] at hx
      exact Option.map_eq_some_iff.mp hx
    obtain ⟨_, _, rfl⟩ : ∃ n, ns[i]? = some n ∧ none = o := by
      rw [List.getElem?_map] at ho
      exact Option.map_eq_some_iff.mp ho
    have h0 := nn n (List.mem_of_getElem? hn)
    refine ⟨_, rfl, .int n, 0, none, true, rfl, .inl ⟨n, rfl, (decide_eq_true ⟨h0, fun j h => nomatch h⟩).symm⟩, _, rfl, ?_⟩
    exact iteF (qt _ (Same.refl _))
  · intro H' s hD
    have e0 : (ns.map fun _ => (none : Option V)).filterMap id = [] := by
      induction ns with
      | nil => rfl
      | cons n r ih => simp
    rw [e0] at hD
    refine ⟨Nat.zero_le _, fun p np => ?_⟩
    have hD' : (upd H' p (.lst [])) D = some (.lst []) := same_upd np _ _ hD
    refine ⟨.list [], .list [], .lst (.inl (.inl hD')) .nil, .lst (.inl (.inl upd_same)) .nil, by decide +kernel, by decide +kernel, _, rfl, iteF ?_⟩
    exact q _ (s.trans (same_upd np))
/-! ### raw_price, price -/
def sp_raw_price (K : PySem.W.Frag) : Sp := fun vs H Q _ => ∃ (a : Addr) (ns : List Int) (i : Nat), vs = [.ref a, .int i] ∧ SqL K H a (ns.map V.int) ∧ ns.length ≤ 1000 ∧ ∀ H', Same H H' → Q (.int (price ns i)) H'
theorem G_raw_price (T : Top K mg) : FnOk P w K mg base CX0 1 T.f_raw_price T.fd_raw_price ["folds", "width"] (sp_raw_price K) := by
  refine T.F_raw_price.ok sc_raw_price (fun vs H Q E h => by obtain ⟨a, ns, i, rfl, _⟩ := h; rfl) (fun cdv A outer s H vs Q E hr h => ?_)
  obtain ⟨a, ns, i, rfl, hS, hl, q⟩ := h
  refine ⟨_, PSs.nox (pss_one (ps_ret (pe_op op_add (pe_op op_mul (pe_callB (k_len K rfl) (by rfl) T.n_len (by decide +kernel) (pa_cons (pv 0) pa_nil)) (pe_op op_add (pv 1) pe_int)) (pe_callB (k_sum K rfl rfl) (by rfl) T.n_sum (by decide +kernel) (pa_cons (pe_lc (own := [("unit", 2)]) (g := gName 2) (tt := tYes) (by rfl) sc_raw_price.nd (k_piL K rfl (pv 0)) (blkOk_by (own := [("unit", 2)]) (N := N_raw_price) (sc := defScope s_raw_price) (by decide +kernel)) (fun _ _ _ _ _ => (pg_name (i := 2) sc_raw_price.nd rfl (by first | exact Or.inl rfl | exact Or.inr rfl))) (fun _ _ _ _ _ => pts_nil) (fun _ _ _ _ _ => (pe_op op_shr (pv 2) (pv 1)))) pa_nil))))), ?_⟩
  have hlen : (ns.map V.int).length = ns.length := List.length_map ..
  refine ⟨_, rfl, a, _, rfl, .inl hS, _, rfl, _, _, rfl, rfl, _, _, rfl, rfl, .inl ⟨by rw [hlen]; omega, by rw [hlen]; omega⟩, ?_⟩
  refine ⟨_, rfl, a, rfl, ⟨_, hS⟩, fun D nD => ?_⟩
  refine lc_mapL (K := K) (xs := ns.map V.int) ((ns.map fun n => n / 2 ^ i).map V.int) nD hS (by simp) (by rw [hlen]; exact small1000 hl) (fun x => rfl) ?_ ?_
  · intro k x y H' hx hy s Qt qt
    obtain ⟨n, hn, rfl⟩ := int_at hx
    rw [List.getElem?_map, List.getElem?_map, hn] at hy
    cases hy
    exact ⟨_, rfl, _, rfl, _, _, rfl, rfl, Int.natCast_nonneg _, qt _ (Same.refl _)⟩
  · intro H' s hD
    refine ⟨D, _, rfl, .inl (.inl hD), _, _, rfl, rfl, ?_⟩
    show Q (.int ((((ns.map V.int).length : Nat) : Int) * ((i : Int) + 1) + (ns.map fun n => n / 2 ^ i).sum)) H'
    rw [hlen, price_raw]
    exact q _ s
/-- folds that the program may be asked -/
def FoldsAt (K : PySem.W.Frag) (H : Hp) (a : Addr) (ns : List Int) : Prop := Rd H a (.lst (ns.map V.int)) ∧ Folds ns ∧ ns.length ≤ 1000
theorem FoldsAt.sq {K : PySem.W.Frag} {H : Hp} {a : Addr} {ns : List Int} (h : FoldsAt K H a ns) : SqL K H a (ns.map V.int) := .inl h.1
theorem FoldsAt.same {K : PySem.W.Frag} {H H' : Hp} {a : Addr} {ns : List Int} (h : FoldsAt K H a ns) (s : Same H H') : FoldsAt K H' a ns := by
  obtain ⟨r, z⟩ := h
  refine ⟨?_, z⟩
  rcases r with r | ⟨o, r⟩
  · exact .inl (s _ _ r)
  · exact .inr ⟨o, s _ _ r⟩
end
end My

namespace My
open PySem PySem.Spec PyProof.Rows L2 Pre
section
variable {P : Program} {w : World} {K : PySem.W.Frag} {mg : Str → Option Value} {base : Heap}
/-! ### told_least, least_width -/
/-- the told tuple -/
def LeastV (ns : List Int) (xs : List V) : Prop := (ns = [] ∧ xs = [.int 0, .int 0, .non]) ∨ (ns ≠ [] ∧ ∃ (m : Int) (f l : Nat), IsLeast ns m f l ∧ xs = [.int m, .int f, .int l])
def sp_told_least (K : PySem.W.Frag) : Sp := fun vs H Q _ => ∃ (a : Addr) (ns : List Int), vs = [.ref a] ∧ FoldsAt K H a ns ∧ ∀ H' p xs, Same H H' → H' p = some (.tup xs) → LeastV ns xs → Q (.ref p) H'
theorem G_told_least (T : Top K mg) : FnOk P w K mg base CX0 2 T.f_told_least T.fd_told_least ["folds"] (sp_told_least K) := by
  refine T.F_told_least.ok sc_told_least (fun vs H Q E h => by obtain ⟨a, ns, rfl, _⟩ := h; rfl) (fun cdv A outer s H vs Q E hr h => ?_)
  obtain ⟨a, ns, rfl, hA, q⟩ := h
  refine ⟨_, PSs.nox (pss_cons (ps_if (pt_cmpR (k_eqD K rfl hr.units) (pv 0) (pe_lst pa_nil) (nomark _))
    (pss_one (ps_ret (pe_tup (pa_cons pe_int (pa_cons pe_int (pa_cons pe_non pa_nil))))))
    pss_nil)
  (pss_cons (ps_set (i := 1) sc_told_least.nd rfl (by first | exact Or.inl rfl | exact Or.inr rfl) pe_int)
  (pss_cons (ps_while PassesOwn.never (pt_cmpR op_gt (pe_callB (k_sum K rfl rfl) (by rfl) T.n_sum (by decide +kernel) (pa_cons (pe_lc (own := [("unit", 4)]) (g := gName 4) (tt := tYes) (by rfl) sc_told_least.nd (k_piL K rfl (pv 0)) (blkOk_by (own := [("unit", 4)]) (N := N_told_least) (sc := defScope s_told_least) (by decide +kernel)) (fun _ _ _ _ _ => (pg_name (i := 4) sc_told_least.nd rfl (by first | exact Or.inl rfl | exact Or.inr rfl))) (fun _ _ _ _ _ => pts_nil) (fun _ _ _ _ _ => (pe_op op_shr (pe_op op_add (pv 4) (pe_op op_shl pe_int (pv 1))) (pe_op op_add (pv 1) pe_int)))) pa_nil)) (pe_callB (k_len K rfl) (by rfl) T.n_len (by decide +kernel) (pa_cons (pv 0) pa_nil)) (nomark _))
    (pss_one (ps_set (i := 1) sc_told_least.nd rfl (by first | exact Or.inl rfl | exact Or.inr rfl) (pe_op op_add (pv 1) pe_int))))
  (pss_cons (ps_par (by rfl) sc_told_least.nd (i := 2) (j := 3) rfl rfl (by decide) rfl rfl (pa_cons (pv 1) (pa_cons (pe_call (G_raw_price T) (hr.mono (by decide)) (by rfl) T.g_raw_price T.F_raw_price.kp T.b_raw_price .nil pass0 (pa_cons (pv 0) (pa_cons (pv 1) pa_nil))) pa_nil)) (by rfl))
  (pss_cons (ps_while PassesOwn.never (pt_cmpR op_eq (pe_call (G_raw_price T) (hr.mono (by decide)) (by rfl) T.g_raw_price T.F_raw_price.kp T.b_raw_price .nil pass0 (pa_cons (pv 0) (pa_cons (pe_op op_add (pv 2) pe_int) pa_nil))) (pv 3) (nomark _))
    (pss_one (ps_set (i := 2) sc_told_least.nd rfl (by first | exact Or.inl rfl | exact Or.inr rfl) (pe_op op_add (pv 2) pe_int))))
  (pss_one (ps_ret (pe_tup (pa_cons (pv 3) (pa_cons (pv 1) (pa_cons (pv 2) pa_nil))))))))))), ?_⟩
  have hlen : (ns.map V.int).length = ns.length := List.length_map ..
  -- folds == []
  refine ⟨_, rfl, Nat.zero_le _, fun p np => ?_⟩
  have s1 : Same H (upd H p (.lst [])) := same_upd np
  generalize hH1 : upd H p (.lst []) = H1 at s1
  have hp : H1 p = some (.lst []) := by rw [← hH1]; exact upd_same
  refine ⟨.list (ns.map PyData.int), .list [], .lst (s1.seq hA.sq) (dp_ints ns), .lst (.inl (.inl hp)) .nil, ?_, by decide +kernel, _, rfl, ?_⟩
  · exact shaped_ints ns
  have eE : PyData.eqv (.list (ns.map PyData.int)) (.list []) = decide (ns = []) := by
    rw [PyData.eqv]
    exact eqv_ints ns []
  rw [eE]
  refine ite2 (fun e => ?_) (fun e => ?_)
  · have e0 : ns = [] := of_decide_eq_true e
    refine ⟨by decide, fun t nt => ?_⟩
    exact q _ t _ (s1.trans (same_upd nt)) upd_same (.inl ⟨e0, rfl⟩)
  · have ne : ns ≠ [] := fun z => e (decide_eq_true z)
    have hpos : 0 < ns.length := by cases ns with | nil => exact absurd rfl ne | cons _ _ => simp
    have hF := hA.2.1
    have c40 := cc_40 ns hF
    -- while: first
    refine ⟨fun m σ H2 => ∃ f : Nat, σ = [some (.ref a), some (.int f), none, none, none] ∧ m + f = 40 ∧ Same H H2 ∧ ∀ u, u < f → (ns.length : Int) < cc ns u, ⟨40, 0, rfl, rfl, s1, fun u hu => absurd hu (by omega)⟩, ?_⟩
    rintro m σ H2 ⟨f, rfl, hm, s2, hlo⟩
    have hA2 := hA.same s2
    refine ⟨_, rfl, a, rfl, ⟨_, hA2.sq⟩, fun D nD => ?_⟩
    refine lc_mapL (K := K) (xs := ns.map V.int) ((ns.map fun n => (n + 2 ^ f) / 2 ^ (f + 1)).map V.int) nD hA2.sq (by simp) (by rw [hlen]; exact small1000 hA.2.2) (fun x => rfl) ?_ ?_
    · intro k x y H' hx hy s Qt qt
      obtain ⟨n, hn, rfl⟩ := int_at hx
      rw [List.getElem?_map, List.getElem?_map, hn] at hy
      cases hy
      refine ⟨_, rfl, _, rfl, _, _, rfl, rfl, ⟨Int.natCast_nonneg _, by omega, by decide⟩, _, _, rfl, rfl, _, rfl, _, _, rfl, rfl, _, _, rfl, rfl, by omega, ?_⟩
      have e1 : V.int ((n + 1 * 2 ^ ((f : Int)).toNat) / 2 ^ ((f : Int) + 1).toNat) = V.int ((n + 2 ^ f) / 2 ^ (f + 1)) := by
        rw [show ((f : Int) + 1).toNat = f + 1 by omega, Int.toNat_natCast, Int.one_mul]
      show Qt (V.int ((n + 1 * 2 ^ ((f : Int)).toNat) / 2 ^ ((f : Int) + 1).toNat)) H'
      rw [e1]
      exact qt _ (Same.refl _)
    · intro H3 s3 hD
      refine ⟨D, _, rfl, .inl (.inl hD), _, rfl, a, _, rfl, .inl (s3.seq hA2.sq), _, _, rfl, rfl, _, rfl, ?_⟩
      rw [hlen]
      refine ite2 (fun c => ?_) (fun c => ?_)
      · have c1 : cc ns f > ns.length := of_decide_eq_true c
        have hf : f < 40 := by
          by_cases h : f < 40
          · exact h
          · have : f = 40 := by omega
            subst this
            omega
        refine ⟨fun σ' H' => ∃ f' : Nat, σ' = [some (.ref a), some (.int f'), none, none, none] ∧ f' = f + 1 ∧ Same H H', fun σ' H' ⟨f', e1, e2, e3⟩ => ⟨m - 1, by omega, f', e1, by omega, e3, fun u hu => ?_⟩, ?_⟩
        · by_cases h : u < f
          · exact hlo u h
          · have : u = f := by omega
            subst this
            exact c1
        · refine ⟨_, rfl, _, _, rfl, rfl, f + 1, ?_, rfl, s2.trans s3⟩
          show [some (V.ref a), some (.int ((f : Int) + 1)), none, none, none] = _
          rw [show ((f + 1 : Nat) : Int) = (f : Int) + 1 by omega]
      · have c1 : cc ns f ≤ ns.length := by
          have : ¬ cc ns f > ns.length := fun h => c (decide_eq_true h)
          omega
        have s4 := s2.trans s3
        have hA4 := hA.same s4
        -- last, least = first, raw_price(folds, first)
        refine ⟨_, rfl, _, rfl, _, rfl, a, ns, f, rfl, hA4.sq, hA.2.2, fun H5 s5 => ?_⟩
        refine ⟨_, _, rfl, ?_⟩
        -- while: last
        refine ⟨fun m σ H2 => ∃ l : Nat, σ = [some (.ref a), some (.int f), some (.int l), some (.int (price ns f)), none] ∧ m + l = 41 ∧ f ≤ l ∧ Same H H2 ∧ ∀ u, f ≤ u → u ≤ l → price ns u = price ns f, ⟨41 - f, f, rfl, by omega, Nat.le_refl _, s4.trans s5, fun u h1 h2 => by rw [show u = f by omega]⟩, ?_⟩
        rintro m σ H6 ⟨l, rfl, hm, hfl, s6, hat⟩
        refine ⟨_, rfl, _, rfl, _, _, rfl, rfl, a, ns, l + 1, rfl, (hA.same s6).sq, hA.2.2, fun H7 s7 => ?_⟩
        refine ⟨_, rfl, rfl, _, rfl, ite2 (fun c => ?_) (fun c => ?_)⟩
        · have c2 : price ns (l + 1) = price ns f := V.int.inj (of_decide_eq_true c)
          have hl : l < 41 := by
            by_cases h : l < 41
            · exact h
            · have : l = 41 := by omega
              subst this
              have e := price_step ns 41
              have h1 : cc ns 41 ≤ cc ns 40 := cc_le ns hF.nn 40 1
              have h2 := hat 41 hfl (Nat.le_refl _)
              omega
          refine ⟨fun σ' H' => ∃ l' : Nat, σ' = [some (.ref a), some (.int f), some (.int l'), some (.int (price ns f)), none] ∧ l' = l + 1 ∧ Same H H', fun σ' H' ⟨l', e1, e2, e3⟩ => ⟨m - 1, by omega, l', e1, by omega, by omega, e3, fun u h1 h2 => ?_⟩, ?_⟩
          · by_cases h : u ≤ l
            · exact hat u h1 h
            · rw [show u = l + 1 by omega]
              exact c2
          · refine ⟨_, rfl, _, _, rfl, rfl, l + 1, ?_, rfl, s6.trans s7⟩
            show [some (V.ref a), some (.int f), some (.int ((l : Int) + 1)), some (.int (price ns f)), none] = _
            rw [show ((l + 1 : Nat) : Int) = (l : Int) + 1 by omega]
        · have c2 : price ns (l + 1) ≠ price ns f := fun z => c (decide_eq_true (congrArg V.int z))
          refine ⟨_, rfl, _, rfl, _, rfl, (show 3 ≤ sizeLine by decide), fun t nt => ?_⟩
          exact q _ t _ ((s6.trans s7).trans (same_upd nt)) upd_same (.inr ⟨ne, _, f, l, My.told_least ns hF ne f l c1 hlo hfl hat c2, rfl⟩)
end
end My

namespace My
open PySem PySem.Spec PyProof.Rows L2 Pre
theorem at_ints {l : List Int} {k : Nat} (h : k < l.length) : atI (l.map V.int) (k : Int) = some (.int (l.getD k 0)) := by
  refine at_of (j := k) (by omega) ?_
  rw [List.getElem?_map, List.getElem?_eq_getElem h, List.getD_eq_getElem?_getD, List.getElem?_eq_getElem h]
  rfl
section
variable {P : Program} {w : World} {K : PySem.W.Frag} {mg : Str → Option Value} {base : Heap}
def sp_law_price (K : PySem.W.Frag) : Sp := fun vs H Q _ => ∃ (a : Addr) (ns : List Int) (v : Nat), vs = [.ref a, .int v] ∧ SqL K H a (ns.map V.int) ∧ v ≤ 200 ∧ Q (.int (price ns v)) H
theorem G_law_price (T : Top K mg) : FnOk P w K mg base CX0 1 T.f_law_price T.fd_law_price ["_law_folds", "_law_width"] (sp_law_price K) := by
  refine T.F_law_price.ok sc_law_price (fun vs H Q E h => by obtain ⟨a, ns, v, rfl, _⟩ := h; rfl) (fun cdv A outer s H vs Q E hr h => ?_)
  obtain ⟨a, ns, v, rfl, hA, hv, q⟩ := h
  refine ⟨_, PSs.nox (pss_cons (ps_set (i := 2) sc_law_price.nd rfl (by first | exact Or.inl rfl | exact Or.inr rfl) pe_int)
  (pss_cons (ps_for PassesOwn.never rfl (k_piL K rfl (pv 0)) (pg_name (i := 3) sc_law_price.nd rfl (by first | exact Or.inl rfl | exact Or.inr rfl))
    (pss_one (ps_set (i := 2) sc_law_price.nd rfl (by first | exact Or.inl rfl | exact Or.inr rfl) (pe_op op_add (pe_op op_add (pe_op op_add (pv 2) (pe_op op_fdivW (pv 3) (pe_op op_shl pe_int (pv 1)))) pe_int) (pv 1)))))
  (pss_one (ps_ret (pv 2))))), ?_⟩
  refine ⟨_, rfl, a, rfl, ⟨_, hA⟩, for_list (K := K) (a := a) (xs := ns.map V.int) (fun i σ H1 => ∃ v3, σ = [some (.ref a), some (.int v), some (.int (price (ns.take i) v)), v3] ∧ H1 = H) ⟨none, rfl, rfl⟩ (fun i σ H1 _ ⟨_, _, e⟩ => by rw [e]; exact hA) ?_ ?_⟩
  · rintro i x σ H1 hx ⟨v3, rfl, rfl⟩
    obtain ⟨n, hn, rfl⟩ := int_at hx
    have hp := pow_pos' v
    have hp2 : (2 : Int) ^ v ≤ 2 ^ 200 := pow2_le hv
    refine ⟨_, rfl, _, rfl, _, rfl, _, _, rfl, rfl, ⟨by omega, by omega, by decide⟩, _, _, rfl, rfl, ?_, ?_⟩
    · show CDivW n (1 * 2 ^ ((v : Int)).toNat)
      rw [Int.one_mul, Int.toNat_natCast]
      exact wide_div (b := 201) hp (by omega) (by decide) (by decide)
    dsimp only
    rw [Int.one_mul, Int.toNat_natCast]
    refine ⟨_, _, rfl, rfl, _, _, rfl, rfl, _, rfl, _, _, rfl, rfl, some (.int n), ?_, rfl⟩
    rw [price_take ns v hn]
    rfl
  · rintro σ H1 ⟨v3, rfl, rfl⟩
    rw [List.length_map, List.take_length]
    exact ⟨_, rfl, q⟩
end
end My

namespace My
open PySem PySem.Spec PyProof.Rows L2 Pre
/-! ### least prices, all widths that matter -/
theorem minI_mem' {l : List Int} (h : l ≠ []) : minI l ∈ l ∧ ∀ y ∈ l, minI l ≤ y := by
  cases l with
  | nil => exact absurd rfl h
  | cons x xs => exact fold_min xs x
theorem rng_ne {α : Type} (n : Nat) (f : Nat → α) : (List.range (n + 1)).map f ≠ [] := fun z => by
  have := congrArg List.length z
  simp at this
def leastP (ns : List Int) : Int := minI ((List.range 42).map fun (w : Nat) => price ns w)
theorem leastP_le (ns : List Int) {w : Nat} (h : w < 42) : leastP ns ≤ price ns w :=
  (minI_mem' (rng_ne 41 _)).2 _ (List.mem_map.mpr ⟨w, List.mem_range.mpr h, rfl⟩)
theorem leastP_at (ns : List Int) : ∃ w, w < 42 ∧ leastP ns = price ns w := by
  obtain ⟨w, hw, e⟩ := List.mem_map.mp (minI_mem' (rng_ne 41 fun (w : Nat) => price ns w)).1
  exact ⟨w, List.mem_range.mp hw, e.symm⟩
theorem leastP_is {ns : List Int} {m : Int} {f l : Nat} (h : IsLeast ns m f l) : leastP ns = m := by
  obtain ⟨w, hw, e⟩ := leastP_at ns
  have a := h.le w
  have b := leastP_le ns (w := f) (by have := h.fl; have := h.l40; omega)
  rw [h.at_ f (Nat.le_refl _) h.fl] at b
  omega
theorem price_cons (n : Int) (ns : List Int) (w : Nat) : price (n :: ns) w = n / 2 ^ w + 1 + w + price ns w := by
  unfold price
  rw [List.map_cons, List.sum_cons]
theorem price_nn : ∀ {ns : List Int}, (∀ n ∈ ns, 0 ≤ n) → ∀ w, 0 ≤ price ns w
  | [], _, _ => Int.le_refl _
  | n :: ns, h, w => by
    have ih := price_nn (fun k hk => h k (List.mem_cons_of_mem _ hk)) w
    have := Int.ediv_nonneg (h n List.mem_cons_self) (Int.le_of_lt (pow_pos' w))
    rw [price_cons]
    omega
theorem price_high : ∀ {ns : List Int} {b w : Nat}, (∀ n ∈ ns, 0 ≤ n ∧ n < 2 ^ b) → b ≤ w → price ns w = ns.length * (1 + (w : Int))
  | [], _, _, _, _ => by simp [price]
  | n :: ns, b, w, h, hw => by
    have ih := price_high (fun k hk => h k (List.mem_cons_of_mem _ hk)) hw
    have hn := h n List.mem_cons_self
    have := pow2_le hw
    rw [price_cons, ih, Int.ediv_eq_zero_of_lt hn.1 (by omega), List.length_cons, Int.natCast_add, Int.add_mul]
    omega
/-- as many bits as the greatest has -/
def hb : List Int → Nat
  | [] => 0
  | n :: ns => max (PySem.Builtin.Int.intBits n) (hb ns)
theorem bits_lt_iff {n : Int} (h : 0 ≤ n) (k : Nat) : PySem.Builtin.Int.intBits n ≤ k ↔ n < 2 ^ k := by
  have e : ((2 ^ k : Nat) : Int) = 2 ^ k := by rw [Int.natCast_pow]; rfl
  rw [intBits_le_iff]
  omega
theorem hb_le : ∀ {ns : List Int} (k : Nat), (∀ n ∈ ns, 0 ≤ n) → (hb ns ≤ k ↔ ∀ n ∈ ns, n < 2 ^ k)
  | [], k, _ => by simp [hb]
  | n :: ns, k, h => by
    have ih := hb_le k fun j hj => h j (List.mem_cons_of_mem _ hj)
    have b := bits_lt_iff (h n List.mem_cons_self) k
    show max _ _ ≤ k ↔ _
    constructor
    · intro z j hj
      rcases List.mem_cons.mp hj with rfl | hj
      · exact b.mp (by omega)
      · exact ih.mp (by omega) j hj
    · intro z
      have b1 := b.mpr (z n List.mem_cons_self)
      have b2 := ih.mpr fun j hj => z j (List.mem_cons_of_mem _ hj)
      omega
/-- widths beyond the bits of all cost no less -/
theorem least_low {ns xs : List Int} (h : Folds ns) (hb40 : hb ns ≤ 40) (hx : ∀ x ∈ xs, x ∈ ns) : ∃ a, a ≤ hb ns ∧ leastP xs = price xs a := by
  have hbx : ∀ n ∈ xs, 0 ≤ n ∧ n < 2 ^ hb ns := fun n hn => ⟨(h n (hx n hn)).1, (hb_le (hb ns) h.nn).mp (Nat.le_refl _) n (hx n hn)⟩
  obtain ⟨w, hw, e⟩ := leastP_at xs
  by_cases c : w ≤ hb ns
  · exact ⟨w, c, e⟩
  · refine ⟨hb ns, Nat.le_refl _, ?_⟩
    have h1 := leastP_le xs (w := hb ns) (by omega)
    rw [price_high hbx (show hb ns ≤ w by omega)] at e
    rw [price_high hbx (Nat.le_refl _)] at *
    have h2 : (xs.length : Int) * (1 + (hb ns : Int)) ≤ xs.length * (1 + (w : Int)) := Int.mul_le_mul_of_nonneg_left (by omega) (by omega)
    omega
/-! ### ways along folds -/
/-- a width, or kept plain -/
abbrev Kd := Option Nat
def wgt (pb : Nat) : Kd → Int → Int
  | some w, n => n / 2 ^ w + 1 + (w : Int)
  | none, _ => (pb : Int)
def shutK (pb : Nat) : Kd → Int → Bool
  | some _, _ => false
  | none, n => decide (0 < n / 2 ^ pb)
def sumTo (pb : Nat) (k : Kd) (ns : List Int) (i : Nat) : Int := ((ns.take i).map (wgt pb k)).sum
def cst (pb : Nat) (k : Kd) (ns : List Int) (b p : Nat) : Int := sumTo pb k ns p - sumTo pb k ns b
def shutAt (pb : Nat) (k : Kd) (ns : List Int) (i : Nat) : Bool := match ns[i]? with
  | some n => shutK pb k n
  | none => false
theorem sumTo_zero (pb : Nat) (k : Kd) (ns : List Int) : sumTo pb k ns 0 = 0 := rfl
theorem sumTo_succ {pb : Nat} {k : Kd} {ns : List Int} {i : Nat} {n : Int} (h : ns[i]? = some n) : sumTo pb k ns (i + 1) = sumTo pb k ns i + wgt pb k n := by
  unfold sumTo
  rw [List.take_add_one, h, List.map_append, List.sum_append]
  show _ + (wgt pb k n + 0) = _
  omega
theorem cst_eq {pb : Nat} {k : Kd} {ns : List Int} {b p : Nat} (h : b ≤ p) : cst pb k ns b p = (((ns.drop b).take (p - b)).map (wgt pb k)).sum := by
  unfold cst sumTo
  have e : ns.take p = ns.take b ++ (ns.drop b).take (p - b) := by
    rw [← List.drop_take]
    have e2 : ns.take b = (ns.take p).take b := by rw [List.take_take, Nat.min_eq_left h]
    conv => rhs; rw [e2]
    exact (List.take_append_drop b (ns.take p)).symm
  rw [e, List.map_append, List.sum_append]
  omega
theorem cst_price {pb : Nat} {w : Nat} {ns : List Int} {b p : Nat} (h : b ≤ p) : cst pb (some w) ns b p = price ((ns.drop b).take (p - b)) w := cst_eq h
theorem cst_plain {pb : Nat} {ns : List Int} {b p : Nat} (h : b ≤ p) (hp : p ≤ ns.length) : cst pb none ns b p = (pb : Int) * ((p - b : Nat) : Int) := by
  rw [cst_eq h]
  have hl : ((ns.drop b).take (p - b)).length = p - b := by rw [List.length_take, List.length_drop]; omega
  generalize (ns.drop b).take (p - b) = l at *
  rw [← hl]
  clear hl
  induction l with
  | nil => simp
  | cons x r ih =>
    rw [List.map_cons, List.sum_cons, ih, List.length_cons, Int.natCast_add, Int.mul_add]
    show (pb : Int) + _ = _ + (pb : Int) * 1
    omega
structure WS where
  bst : Option (Int × Nat)
  snc : Nat
def passW (sh : Bool) (p : Nat) (s : WS) : WS := if sh = true then ⟨none, p⟩ else s
def lessO (x : Int) : Option (Int × Nat) → Bool
  | none => true
  | some (m, _) => decide (x < m)
def begW (p : Nat) (pr sm : Int) (s : WS) : WS := if (decide (s.snc ≤ p) && lessO (pr - sm) s.bst) = true then ⟨some (pr - sm, p), s.snc⟩ else s
def begO (pb few : Nat) (k : Kd) (ns : List Int) (T : List (Option Int)) (p : Nat) (s : WS) : WS :=
  if few ≤ p then match T[p - few]? with
    | some (some t) => begW (p - few) t (sumTo pb k ns (p - few)) s
    | _ => s
  else s
def stW (pb few : Nat) (k : Kd) (ns : List Int) (T : List (Option Int)) : Nat → WS
  | 0 => ⟨none, 0⟩
  | p + 1 => begO pb few k ns T (p + 1) (passW (shutAt pb k ns p) (p + 1) (stW pb few k ns T p))
theorem stW_ext {pb few : Nat} {k : Kd} {ns : List Int} {T R : List (Option Int)} (hf : 1 ≤ few) : ∀ {p : Nat}, p ≤ T.length → stW pb few k ns (T ++ R) p = stW pb few k ns T p
  | 0, _ => rfl
  | p + 1, h => by
    show begO pb few k ns (T ++ R) (p + 1) _ = begO pb few k ns T (p + 1) _
    rw [stW_ext hf (show p ≤ T.length by omega)]
    unfold begO
    by_cases c : few ≤ p + 1
    · rw [if_pos c, if_pos c, List.getElem?_append_left (by omega)]
    · rw [if_neg c, if_neg c]
/-- a stretch from b on that a price leads to -/
def Val (pb few : Nat) (k : Kd) (ns : List Int) (T : List (Option Int)) (p b : Nat) (t : Int) : Prop := b + few ≤ p ∧ T[b]? = some (some t) ∧ ∀ i, b ≤ i → i < p → shutAt pb k ns i = false
structure StOk (pb few : Nat) (k : Kd) (ns : List Int) (T : List (Option Int)) (p : Nat) (s : WS) : Prop where
  le : s.snc ≤ p
  free : ∀ i, s.snc ≤ i → i < p → shutAt pb k ns i = false
  bar : ∀ c, c < s.snc → ∃ i, c ≤ i ∧ i < p ∧ shutAt pb k ns i = true
  none_ : s.bst = none → ∀ b t, ¬ Val pb few k ns T p b t
  some_ : ∀ m b, s.bst = some (m, b) → (∃ t, Val pb few k ns T p b t ∧ m = t - sumTo pb k ns b) ∧ ∀ b' t', Val pb few k ns T p b' t' → m ≤ t' - sumTo pb k ns b'
theorem stW_ok {pb few : Nat} {k : Kd} {ns : List Int} {T : List (Option Int)} (hf : 1 ≤ few) : ∀ p, StOk pb few k ns T p (stW pb few k ns T p)
  | 0 => ⟨Nat.le_refl _, fun i _ h => absurd h (Nat.not_lt_zero i), fun c h => absurd h (Nat.not_lt_zero c), fun _ b t h => by have := h.1; omega, fun m b h => by cases h⟩
  | p + 1 => by
    have ih := stW_ok (pb := pb) (k := k) (ns := ns) (T := T) hf p
    show StOk pb few k ns T (p + 1) (begO pb few k ns T (p + 1) (passW (shutAt pb k ns p) (p + 1) (stW pb few k ns T p)))
    generalize stW pb few k ns T p = s at *
    by_cases c : shutAt pb k ns p = true
    · have e1 : passW (shutAt pb k ns p) (p + 1) s = ⟨none, p + 1⟩ := by unfold passW; rw [if_pos c]
      have e2 : begO pb few k ns T (p + 1) ⟨none, p + 1⟩ = ⟨none, p + 1⟩ := by
        unfold begO
        by_cases d : few ≤ p + 1
        · rw [if_pos d]
          split
          · unfold begW
            rw [decide_eq_false (show ¬ (p + 1 ≤ p + 1 - few) by omega), Bool.false_and, if_neg (by decide)]
          · rfl
        · rw [if_neg d]
      rw [e1, e2]
      refine ⟨Nat.le_refl _, fun i h1 h2 => by have : p + 1 ≤ i := h1; omega, fun i h => ⟨p, by have : i < p + 1 := h; omega, Nat.lt_succ_self _, c⟩, fun _ b t h => ?_, fun m b h => by cases h⟩
      have := h.2.2 p (by have := h.1; omega) (Nat.lt_succ_self _)
      rw [c] at this
      cases this
    · have e1 : passW (shutAt pb k ns p) (p + 1) s = s := by unfold passW; rw [if_neg c]
      have c' : shutAt pb k ns p = false := by cases h : shutAt pb k ns p <;> simp_all
      rw [e1]
      have hfree : ∀ i, s.snc ≤ i → i < p + 1 → shutAt pb k ns i = false := fun i h1 h2 => by
        by_cases z : i = p
        · rw [z]; exact c'
        · exact ih.free i h1 (by omega)
      have hbar : ∀ c, c < s.snc → ∃ i, c ≤ i ∧ i < p + 1 ∧ shutAt pb k ns i = true := fun c h => by
        obtain ⟨i, h1, h2, h3⟩ := ih.bar c h
        exact ⟨i, h1, by omega, h3⟩
      -- the candidates
      have old : ∀ {b t}, Val pb few k ns T p b t → Val pb few k ns T (p + 1) b t := fun {b t} h => ⟨by have := h.1; omega, h.2.1, fun i h1 h2 => by
        by_cases z : i = p
        · rw [z]; exact c'
        · exact h.2.2 i h1 (by omega)⟩
      have new : ∀ {b t}, Val pb few k ns T (p + 1) b t → Val pb few k ns T p b t ∨ b = p + 1 - few := fun {b t} h => by
        by_cases z : b + few ≤ p
        · exact .inl ⟨z, h.2.1, fun i h1 h2 => h.2.2 i h1 (by omega)⟩
        · exact .inr (by have := h.1; omega)
      have stay : (∀ b t, Val pb few k ns T (p + 1) b t → Val pb few k ns T p b t ∨ ∃ m b', s.bst = some (m, b') ∧ m ≤ t - sumTo pb k ns b) → StOk pb few k ns T (p + 1) s := fun hst => by
        refine ⟨by have := ih.le; omega, hfree, hbar, fun e b t h => ?_, fun m b e => ?_⟩
        · rcases hst b t h with h | ⟨m, b', e', _⟩
          · exact ih.none_ e b t h
          · rw [e] at e'; cases e'
        · obtain ⟨⟨t, h1, h2⟩, h3⟩ := ih.some_ m b e
          refine ⟨⟨t, old h1, h2⟩, fun b' t' h => ?_⟩
          rcases hst b' t' h with h | ⟨m2, b2, e', hle⟩
          · exact h3 b' t' h
          · rw [e] at e'; cases e'; exact hle
      unfold begO
      by_cases d : few ≤ p + 1
      · rw [if_pos d]
        split
        · rename_i t ht
          unfold begW
          by_cases g : (decide (s.snc ≤ p + 1 - few) && lessO (t - sumTo pb k ns (p + 1 - few)) s.bst) = true
          · rw [if_pos g]
            rw [Bool.and_eq_true, decide_eq_true_eq] at g
            refine ⟨by show s.snc ≤ p + 1; have := ih.le; omega, hfree, hbar, (fun e => by cases e), fun m b e => ?_⟩
            cases e
            refine ⟨⟨t, ⟨by omega, ht, fun i h1 h2 => hfree i (by omega) h2⟩, rfl⟩, fun b' t' h => ?_⟩
            rcases new h with h1 | h1
            · have hl := g.2
              cases hb : s.bst with
              | none => exact absurd h1 (ih.none_ hb b' t')
              | some q =>
                obtain ⟨m, b2⟩ := q
                rw [hb] at hl
                have h3 := (ih.some_ m b2 hb).2 b' t' h1
                have h4 : t - sumTo pb k ns (p + 1 - few) < m := of_decide_eq_true hl
                omega
            · subst h1
              have e3 := ht.symm.trans h.2.1
              cases e3
              exact Int.le_refl _
          · rw [if_neg g]
            refine stay fun b t' h => ?_
            rcases new h with h1 | h1
            · exact .inl h1
            · subst h1
              have e3 := ht.symm.trans h.2.1
              cases e3
              have hs : s.snc ≤ p + 1 - few := by
                by_cases z : s.snc ≤ p + 1 - few
                · exact z
                · obtain ⟨i, h1, h2, h3⟩ := hbar (p + 1 - few) (by omega)
                  rw [h.2.2 i h1 h2] at h3
                  cases h3
              rw [decide_eq_true hs, Bool.true_and] at g
              cases hb : s.bst with
              | none => rw [hb] at g; exact absurd rfl g
              | some q =>
                obtain ⟨m, b2⟩ := q
                rw [hb] at g
                have h4 : ¬ (t - sumTo pb k ns (p + 1 - few) < m) := fun z => g (decide_eq_true z)
                exact .inr ⟨m, b2, rfl, by omega⟩
        · rename_i hn
          refine stay fun b t h => ?_
          rcases new h with h1 | h1
          · exact .inl h1
          · subst h1
            exact absurd h.2.1 (hn t)
      · rw [if_neg d]
        refine stay fun b t h => ?_
        rcases new h with h1 | h1
        · exact .inl h1
        · have := h.1; omega
end My

namespace My
open PySem PySem.Spec PyProof.Rows L2 Pre
/-! ### the best over all ways; totals -/
def hereW (pb : Nat) (k : Kd) (ns : List Int) (p : Nat) (s : WS) : Option (Int × Nat) := s.bst.map fun q => (q.1 + sumTo pb k ns p, q.2)
abbrev Bst := Option (Int × Nat × Kd)
def lessB (x : Int) : Bst → Bool
  | none => true
  | some (v, _, _) => decide (x < v)
def bestU (cost : Int) (k : Kd) (h : Option (Int × Nat)) (best : Bst) : Bst := match h with
  | none => best
  | some (m, b) => if lessB (m + cost) best = true then some (m + cost, b, k) else best
def bestL (pb few : Nat) (cost : Int) (ns : List Int) (T : List (Option Int)) (p : Nat) (wk : List Kd) (best : Bst) : Bst := wk.foldl (fun best k => bestU cost k (hereW pb k ns p (stW pb few k ns T p)) best) best
structure BsOk (pb few : Nat) (cost : Int) (ns : List Int) (T : List (Option Int)) (p : Nat) (S : List Kd) (best : Bst) : Prop where
  none_ : best = none → ∀ k ∈ S, ∀ b t, ¬ Val pb few k ns T p b t
  some_ : ∀ v b k, best = some (v, b, k) → k ∈ S ∧ (∃ t, Val pb few k ns T p b t ∧ v = t + cst pb k ns b p + cost) ∧ ∀ k' ∈ S, ∀ b' t', Val pb few k' ns T p b' t' → v ≤ t' + cst pb k' ns b' p + cost
theorem bestU_ok {pb few : Nat} {cost : Int} {ns : List Int} {T : List (Option Int)} {p : Nat} (hf : 1 ≤ few) {S : List Kd} {best : Bst} (k : Kd) (h : BsOk pb few cost ns T p S best) : BsOk pb few cost ns T p (S ++ [k]) (bestU cost k (hereW pb k ns p (stW pb few k ns T p)) best) := by
  have hs := stW_ok (pb := pb) (few := few) (k := k) (ns := ns) (T := T) hf p
  generalize stW pb few k ns T p = s at *
  have mem : ∀ {k'}, k' ∈ S ++ [k] ↔ k' ∈ S ∨ k' = k := fun {k'} => by rw [List.mem_append, List.mem_singleton]
  unfold hereW
  cases hb : s.bst with
  | none =>
    refine ⟨fun e k' hk => ?_, fun v b k' e => ?_⟩
    · rcases mem.mp hk with z | rfl
      · exact h.none_ e k' z
      · exact hs.none_ hb
    · obtain ⟨a, c, d⟩ := h.some_ v b k' e
      refine ⟨mem.mpr (.inl a), c, fun k2 hk2 b' t' hv => ?_⟩
      rcases mem.mp hk2 with z | rfl
      · exact d k2 z b' t' hv
      · exact absurd hv (hs.none_ hb b' t')
  | some q =>
    obtain ⟨m, b0⟩ := q
    obtain ⟨⟨t0, hv0, hm0⟩, hle⟩ := hs.some_ m b0 hb
    have hv : m + sumTo pb k ns p + cost = t0 + cst pb k ns b0 p + cost := by unfold cst; omega
    show BsOk pb few cost ns T p (S ++ [k]) (if lessB (m + sumTo pb k ns p + cost) best = true then some (m + sumTo pb k ns p + cost, b0, k) else best)
    have hmin : ∀ b' t', Val pb few k ns T p b' t' → m + sumTo pb k ns p + cost ≤ t' + cst pb k ns b' p + cost := fun b' t' h' => by
      have := hle b' t' h'
      unfold cst
      omega
    by_cases c : lessB (m + sumTo pb k ns p + cost) best = true
    · rw [if_pos c]
      refine ⟨(fun e => by cases e), fun v b k' e => ?_⟩
      cases e
      refine ⟨mem.mpr (.inr rfl), ⟨t0, hv0, hv⟩, fun k2 hk2 b' t' h' => ?_⟩
      rcases mem.mp hk2 with z | rfl
      · cases hbst : best with
        | none => exact absurd h' (h.none_ hbst k2 z b' t')
        | some q =>
          obtain ⟨v, b, k'⟩ := q
          have h1 := (h.some_ v b k' hbst).2.2 k2 z b' t' h'
          rw [hbst] at c
          have h2 : m + sumTo pb k ns p + cost < v := of_decide_eq_true c
          omega
      · exact hmin b' t' h'
    · rw [if_neg c]
      cases hbst : best with
      | none => rw [hbst] at c; exact absurd rfl c
      | some q =>
        obtain ⟨v, b, k'⟩ := q
        rw [hbst] at c
        have h2 : ¬ (m + sumTo pb k ns p + cost < v) := fun z => c (decide_eq_true z)
        refine ⟨(fun e => by cases e), fun v' b' k2 e => ?_⟩
        cases e
        obtain ⟨a, c', d⟩ := h.some_ v b k' hbst
        refine ⟨mem.mpr (.inl a), c', fun k3 hk3 b' t' h' => ?_⟩
        rcases mem.mp hk3 with z | rfl
        · exact d k3 z b' t' h'
        · have := hmin b' t' h'
          omega
theorem bestL_ok {pb few : Nat} {cost : Int} {ns : List Int} {T : List (Option Int)} {p : Nat} (hf : 1 ≤ few) : ∀ (wk S : List Kd) (best : Bst), BsOk pb few cost ns T p S best → BsOk pb few cost ns T p (S ++ wk) (bestL pb few cost ns T p wk best)
  | [], S, best, h => by rw [List.append_nil]; exact h
  | k :: r, S, best, h => by
    have := bestL_ok hf r (S ++ [k]) _ (bestU_ok hf k h)
    rw [List.append_assoc] at this
    exact this
def bestA (pb few : Nat) (cost : Int) (ns : List Int) (wk : List Kd) (T : List (Option Int)) (p : Nat) : Bst := bestL pb few cost ns T p wk none
theorem bestA_ok {pb few : Nat} {cost : Int} {ns : List Int} {T : List (Option Int)} {p : Nat} (hf : 1 ≤ few) (wk : List Kd) : BsOk pb few cost ns T p wk (bestA pb few cost ns wk T p) := by
  have := bestL_ok (pb := pb) (cost := cost) (ns := ns) (T := T) (p := p) hf wk [] none ⟨(fun _ k h => nomatch h), fun v b k e => by cases e⟩
  rwa [List.nil_append] at this
theorem bestA_ext {pb few : Nat} {cost : Int} {ns : List Int} {wk : List Kd} {T R : List (Option Int)} {p : Nat} (hf : 1 ≤ few) (h : p ≤ T.length) : bestA pb few cost ns wk (T ++ R) p = bestA pb few cost ns wk T p := by
  unfold bestA bestL
  congr 1
  funext best k
  rw [stW_ext hf h]
/-! what a stretch costs at least -/
def slc (ns : List Int) (b p : Nat) : List Int := (ns.drop b).take (p - b)
theorem slc_len {ns : List Int} {b p : Nat} (h : b ≤ p) (hp : p ≤ ns.length) : (slc ns b p).length = p - b := by
  unfold slc
  rw [List.length_take, List.length_drop]
  omega
theorem slc_at {ns : List Int} {b p : Nat} {n : Int} (h : b ≤ p) (hm : n ∈ slc ns b p) : ∃ i, b ≤ i ∧ i < p ∧ ns[i]? = some n := by
  obtain ⟨j, hj⟩ := List.getElem?_of_mem hm
  unfold slc at hj
  by_cases c : j < p - b
  · rw [List.getElem?_take_of_lt c, List.getElem?_drop] at hj
    exact ⟨b + j, by omega, by omega, hj⟩
  · rw [List.getElem?_eq_none (by rw [List.length_take]; omega)] at hj
    cases hj
theorem slc_mem {ns : List Int} {b p : Nat} {n : Int} {i : Nat} (h1 : b ≤ i) (h2 : i < p) (h : ns[i]? = some n) : n ∈ slc ns b p := by
  refine List.mem_of_getElem? (i := i - b) ?_
  unfold slc
  rw [List.getElem?_take_of_lt (by omega), List.getElem?_drop, show b + (i - b) = i by omega, h]
def plainB (pb : Nat) (xs : List Int) : Bool := xs.all fun n => decide (n < 2 ^ pb)
def strP : Option Nat → List Int → Int
  | some pb, xs => if plainB pb xs = true then min (leastP xs) ((pb : Int) * (xs.length : Nat)) else leastP xs
  | none, xs => leastP xs
def kinds (ns : List Int) (bits : Option Nat) : List Kd := (List.range (hb ns + 1)).map some ++ (match bits with
  | some _ => [none]
  | none => [])
def allow (pb : Nat) (k : Kd) (ns : List Int) (b p : Nat) : Prop := ∀ i, b ≤ i → i < p → shutAt pb k ns i = false
theorem allow_some {pb w : Nat} {ns : List Int} {b p : Nat} : allow pb (some w) ns b p := fun i _ _ => by
  unfold shutAt
  split <;> rfl
theorem high_iff {n : Int} {pb : Nat} (h : 0 ≤ n) : 0 < n / 2 ^ pb ↔ ¬ n < 2 ^ pb := by
  have hp := pow_pos' pb
  constructor
  · intro z c
    rw [Int.ediv_eq_zero_of_lt h c] at z
    omega
  · intro z
    have h1 : (1 : Int) * 2 ^ pb ≤ n := by omega
    have := (Int.le_ediv_iff_mul_le hp).mpr h1
    omega
theorem allow_none {pb : Nat} {ns : List Int} (hn : ∀ n ∈ ns, 0 ≤ n) {b p : Nat} (h : b ≤ p) : allow pb none ns b p ↔ plainB pb (slc ns b p) = true := by
  unfold plainB
  rw [List.all_eq_true]
  constructor
  · intro a n hm
    obtain ⟨i, h1, h2, h3⟩ := slc_at h hm
    have h4 := a i h1 h2
    unfold shutAt at h4
    rw [h3] at h4
    have h5 : ¬ 0 < n / 2 ^ pb := of_decide_eq_false h4
    exact decide_eq_true (Classical.byContradiction fun z => h5 ((high_iff (hn n (List.mem_of_getElem? h3))).mpr z))
  · intro a i h1 h2
    unfold shutAt
    cases e : ns[i]? with
    | none => rfl
    | some n =>
      have h3 := of_decide_eq_true (a n (slc_mem h1 h2 e))
      exact decide_eq_false fun z => (high_iff (hn n (List.mem_of_getElem? e))).mp z h3
theorem str_low {ns : List Int} {bits : Option Nat} (hF : Folds ns) (h40 : hb ns ≤ 40) {k : Kd} (hk : k ∈ kinds ns bits) {b p : Nat} (h : b ≤ p) (hp : p ≤ ns.length) (ha : allow (bits.getD 0) k ns b p) : strP bits (slc ns b p) ≤ cst (bits.getD 0) k ns b p := by
  have hle : strP bits (slc ns b p) ≤ leastP (slc ns b p) := by
    unfold strP
    split
    · split
      · exact Int.min_le_left _ _
      · exact Int.le_refl _
    · exact Int.le_refl _
  unfold kinds at hk
  rcases List.mem_append.mp hk with hk | hk
  · obtain ⟨w, hw, rfl⟩ := List.mem_map.mp hk
    rw [cst_price h]
    exact Int.le_trans hle (leastP_le _ (by have := List.mem_range.mp hw; omega))
  · cases bits with
    | none => cases hk
    | some pb =>
      rw [List.mem_singleton.mp hk] at ha ⊢
      have hpl := (allow_none hF.nn h).mp ha
      show strP (some pb) _ ≤ cst pb none ns b p
      unfold strP
      dsimp only
      rw [show plainB pb (slc ns b p) = true from hpl, if_pos rfl, cst_plain h hp, slc_len h hp]
      exact Int.min_le_right _ _
theorem str_at {ns : List Int} {bits : Option Nat} (hF : Folds ns) (h40 : hb ns ≤ 40) {b p : Nat} (h : b ≤ p) (hp : p ≤ ns.length) : ∃ k ∈ kinds ns bits, allow (bits.getD 0) k ns b p ∧ cst (bits.getD 0) k ns b p = strP bits (slc ns b p) := by
  obtain ⟨w, hw, e⟩ := least_low hF h40 (xs := slc ns b p) fun x hx => by
    obtain ⟨i, _, _, h3⟩ := slc_at h hx
    exact List.mem_of_getElem? h3
  have hmem : some w ∈ kinds ns bits := List.mem_append_left _ (List.mem_map.mpr ⟨w, List.mem_range.mpr (by omega), rfl⟩)
  have low : leastP (slc ns b p) = cst (bits.getD 0) (some w) ns b p := by rw [cst_price h]; exact e
  cases bits with
  | none => exact ⟨some w, hmem, allow_some, low.symm⟩
  | some pb =>
    unfold strP
    dsimp only
    by_cases c : plainB pb (slc ns b p) = true
    · rw [if_pos c]
      rcases Int.le_total (leastP (slc ns b p)) ((pb : Int) * ((slc ns b p).length : Nat)) with z | z
      · rw [Int.min_eq_left z]
        exact ⟨some w, hmem, allow_some, low.symm⟩
      · rw [Int.min_eq_right z]
        refine ⟨none, List.mem_append_right _ List.mem_cons_self, (allow_none hF.nn h).mpr c, ?_⟩
        show cst pb none ns b p = _
        rw [cst_plain h hp, slc_len h hp]
    · rw [if_neg c]
      exact ⟨some w, hmem, allow_some, low.symm⟩
theorem str_nn {ns : List Int} (h : ∀ n ∈ ns, 0 ≤ n) : ∀ bits, 0 ≤ strP bits ns := by
  have h0 : 0 ≤ leastP ns := by
    obtain ⟨w, _, e⟩ := leastP_at ns
    rw [e]
    exact price_nn h w
  intro bits
  unfold strP
  split
  · split
    · have h1 := Int.mul_nonneg (Int.natCast_nonneg (by assumption)) (Int.natCast_nonneg ns.length)
      omega
    · exact h0
  · exact h0
/-! ### totals of all beginnings -/
def gone (pb few : Nat) (cost : Int) (ns : List Int) (wk : List Kd) : Nat → List (Option Int) × List Bst
  | 0 => ([some 0], [none])
  | p + 1 => ((gone pb few cost ns wk p).1 ++ [(bestA pb few cost ns wk (gone pb few cost ns wk p).1 (p + 1)).map fun q => q.1], (gone pb few cost ns wk p).2 ++ [bestA pb few cost ns wk (gone pb few cost ns wk p).1 (p + 1)])
def las (pb few : Nat) (cost : Int) (ns : List Int) (wk : List Kd) : Nat → Bst
  | 0 => none
  | p + 1 => bestA pb few cost ns wk (gone pb few cost ns wk p).1 (p + 1)
def tot (pb few : Nat) (cost : Int) (ns : List Int) (wk : List Kd) : Nat → Option Int
  | 0 => some 0
  | p + 1 => (las pb few cost ns wk (p + 1)).map fun q => q.1
theorem gone_tot {pb few : Nat} {cost : Int} {ns : List Int} {wk : List Kd} : ∀ p, (gone pb few cost ns wk p).1 = (List.range (p + 1)).map (tot pb few cost ns wk)
  | 0 => rfl
  | p + 1 => by
    rw [List.range_succ, List.map_append, ← gone_tot p]
    rfl
theorem gone_las {pb few : Nat} {cost : Int} {ns : List Int} {wk : List Kd} : ∀ p, (gone pb few cost ns wk p).2 = (List.range (p + 1)).map (las pb few cost ns wk)
  | 0 => rfl
  | p + 1 => by
    rw [List.range_succ, List.map_append, ← gone_las p]
    rfl
theorem gone_at {pb few : Nat} {cost : Int} {ns : List Int} {wk : List Kd} {p b : Nat} (h : b ≤ p) : (gone pb few cost ns wk p).1[b]? = some (tot pb few cost ns wk b) := by
  rw [gone_tot, List.getElem?_map, List.getElem?_range (by omega)]
  rfl
theorem gone_len {pb few : Nat} {cost : Int} {ns : List Int} {wk : List Kd} (p : Nat) : (gone pb few cost ns wk p).1.length = p + 1 := by rw [gone_tot, List.length_map, List.length_range]
/-- the ends of least totals -/
structure TotOk (bits : Option Nat) (few : Nat) (cost : Int) (ns : List Int) (q : Nat) : Prop where
  none_ : tot (bits.getD 0) few cost ns (kinds ns bits) q = none → ∀ b t, b + few ≤ q → tot (bits.getD 0) few cost ns (kinds ns bits) b ≠ some t
  some_ : ∀ v b k, las (bits.getD 0) few cost ns (kinds ns bits) q = some (v, b, k) → b + few ≤ q ∧ (∃ t, tot (bits.getD 0) few cost ns (kinds ns bits) b = some t ∧ v = t + strP bits (slc ns b q) + cost) ∧ k ∈ kinds ns bits ∧ allow (bits.getD 0) k ns b q ∧ cst (bits.getD 0) k ns b q = strP bits (slc ns b q) ∧
    ∀ b' t', b' + few ≤ q → tot (bits.getD 0) few cost ns (kinds ns bits) b' = some t' → v ≤ t' + strP bits (slc ns b' q) + cost
theorem tot_ok {bits : Option Nat} {few : Nat} {cost : Int} {ns : List Int} (hf : 1 ≤ few) (hF : Folds ns) (h40 : hb ns ≤ 40) {q : Nat} (hq : q ≤ ns.length) (h0 : 0 < q) : TotOk bits few cost ns q := by
  obtain ⟨p, rfl⟩ : ∃ p, q = p + 1 := ⟨q - 1, by omega⟩
  have hb := bestA_ok (pb := bits.getD 0) (cost := cost) (ns := ns) (T := (gone (bits.getD 0) few cost ns (kinds ns bits) p).1) (p := p + 1) hf (kinds ns bits)
  have toV : ∀ {k b t}, b + few ≤ p + 1 → tot (bits.getD 0) few cost ns (kinds ns bits) b = some t → allow (bits.getD 0) k ns b (p + 1) → Val (bits.getD 0) few k ns (gone (bits.getD 0) few cost ns (kinds ns bits) p).1 (p + 1) b t := fun {k b t} h1 h2 h3 => ⟨h1, by rw [gone_at (by omega), h2], h3⟩
  refine ⟨fun e b t h1 h2 => ?_, fun v b k e => ?_⟩
  · have e' : bestA (bits.getD 0) few cost ns (kinds ns bits) (gone (bits.getD 0) few cost ns (kinds ns bits) p).1 (p + 1) = none := Option.map_eq_none_iff.mp e
    obtain ⟨k, hk, ha, _⟩ := str_at (bits := bits) hF h40 (show b ≤ p + 1 by omega) hq
    exact hb.none_ e' k hk b t (toV h1 h2 ha)
  · obtain ⟨hk, ⟨t, hv, ev⟩, hmin⟩ := hb.some_ v b k e
    have hbt : tot (bits.getD 0) few cost ns (kinds ns bits) b = some t := by
      have := hv.2.1
      rw [gone_at (by have := hv.1; omega)] at this
      exact Option.some.inj this
    have hlow := str_low hF h40 hk (show b ≤ p + 1 by have := hv.1; omega) hq hv.2.2
    have hall : ∀ b' t', b' + few ≤ p + 1 → tot (bits.getD 0) few cost ns (kinds ns bits) b' = some t' → v ≤ t' + strP bits (slc ns b' (p + 1)) + cost := fun b' t' h1 h2 => by
      obtain ⟨k', hk', ha', e'⟩ := str_at (bits := bits) hF h40 (show b' ≤ p + 1 by omega) hq
      rw [← e']
      exact hmin k' hk' b' t' (toV h1 h2 ha')
    have h3 := hall b t hv.1 hbt
    have ec : cst (bits.getD 0) k ns b (p + 1) = strP bits (slc ns b (p + 1)) := by omega
    exact ⟨hv.1, ⟨t, hbt, by rw [ev, ec]⟩, hk, hv.2.2, ec, hall⟩
end My

namespace My
open PySem PySem.Spec PyProof.Rows L2 Pre
/-! ### all lists of lengths -/
def lenK (few : Nat) : Nat → Nat → List (List Nat)
  | 0, _ => []
  | f + 1, m => (if m = 0 then [[]] else []) ++ (List.range (m + 1 - few)).flatMap fun i => (lenK few f (m - (few + i))).map fun l => (few + i) :: l
theorem mem_lenK {few : Nat} (hf : 1 ≤ few) : ∀ (f m : Nat) (l : List Nat), m < f → (l ∈ lenK few f m ↔ l.sum = m ∧ ∀ x ∈ l, few ≤ x)
  | 0, m, l, h => absurd h (Nat.not_lt_zero m)
  | f + 1, m, l, h => by
    show l ∈ (if m = 0 then [[]] else []) ++ _ ↔ _
    rw [List.mem_append, List.mem_flatMap]
    have hfirst : l ∈ (if m = 0 then ([[]] : List (List Nat)) else []) ↔ m = 0 ∧ l = [] := by
      by_cases c : m = 0
      · rw [if_pos c, List.mem_singleton]
        exact ⟨fun z => ⟨c, z⟩, fun z => z.2⟩
      · rw [if_neg c]
        exact ⟨(fun z => nomatch z), fun z => absurd z.1 c⟩
    rw [hfirst]
    constructor
    · rintro (⟨rfl, rfl⟩ | ⟨i, hi, hl⟩)
      · exact ⟨rfl, fun x hx => nomatch hx⟩
      · obtain ⟨r, hr, rfl⟩ := List.mem_map.mp hl
        have him := List.mem_range.mp hi
        obtain ⟨h1, h2⟩ := (mem_lenK hf f _ r (by omega)).mp hr
        refine ⟨by rw [List.sum_cons, h1]; omega, fun x hx => ?_⟩
        rcases List.mem_cons.mp hx with rfl | hx
        · omega
        · exact h2 x hx
    · rintro ⟨h1, h2⟩
      cases l with
      | nil => exact .inl ⟨h1.symm, rfl⟩
      | cons x r =>
        have hx := h2 x List.mem_cons_self
        rw [List.sum_cons] at h1
        refine .inr ⟨x - few, List.mem_range.mpr (by omega), List.mem_map.mpr ⟨r, (mem_lenK hf f _ r (by omega)).mpr ⟨by omega, fun y hy => h2 y (List.mem_cons_of_mem _ hy)⟩, by rw [show few + (x - few) = x by omega]⟩⟩
theorem nodup_lenK {few : Nat} : ∀ f m : Nat, (lenK few f m).Nodup
  | 0, m => List.nodup_nil
  | f + 1, m => by
    show ((if m = 0 then [[]] else []) ++ _).Nodup
    rw [List.nodup_append]
    refine ⟨by by_cases c : m = 0 <;> simp [c], ?_, fun a ha b hb e => ?_⟩
    · unfold List.Nodup
      rw [List.pairwise_flatMap]
      refine ⟨fun i _ => List.Pairwise.map _ (fun a c h e => h (List.cons.inj e).2) (nodup_lenK f _), ?_⟩
      refine List.Pairwise.imp (fun {i j} hij a ha b hb e => ?_) List.pairwise_lt_range
      obtain ⟨r, _, rfl⟩ := List.mem_map.mp ha
      obtain ⟨r', _, rfl⟩ := List.mem_map.mp hb
      have := (List.cons.inj e).1
      omega
    · by_cases c : m = 0
      · rw [if_pos c, List.mem_singleton] at ha
        subst ha
        obtain ⟨i, _, hl⟩ := List.mem_flatMap.mp hb
        obtain ⟨r, _, rfl⟩ := List.mem_map.mp hl
        cases e
      · rw [if_neg c] at ha
        cases ha
theorem lenK_eq {few : Nat} (hf : 1 ≤ few) : ∀ {f g m : Nat}, m < f → m < g → lenK few f m = lenK few g m
  | 0, _, m, h, _ => absurd h (Nat.not_lt_zero m)
  | _, 0, m, _, h => absurd h (Nat.not_lt_zero m)
  | f + 1, g + 1, m, h1, h2 => by
    show _ ++ _ = _ ++ _
    congr 1
    rw [List.flatMap_def, List.flatMap_def]
    congr 1
    refine List.map_congr_left fun i hi => ?_
    have := List.mem_range.mp hi
    rw [lenK_eq hf (f := f) (g := g) (by omega) (by omega)]
def lenF (few m : Nat) : List (List Nat) := lenK few (m + 1) m
theorem mem_lenF {few : Nat} (hf : 1 ≤ few) {m : Nat} {l : List Nat} : l ∈ lenF few m ↔ l.sum = m ∧ ∀ x ∈ l, few ≤ x := mem_lenK hf _ _ _ (Nat.lt_succ_self m)
theorem len_perm {few : Nat} (hf : 1 ≤ few) {p : Nat} (hp : 0 < p) : (lenF few p).Perm ((List.range (p + 1 - few)).flatMap fun b => (lenF few b).map fun l => l ++ [p - b]) := by
  refine (List.perm_ext_iff_of_nodup (nodup_lenK _ _) ?_).mpr fun l => ?_
  · unfold List.Nodup
    rw [List.pairwise_flatMap]
    refine ⟨fun b _ => List.Pairwise.map _ (fun a c h e => h (List.append_cancel_right e)) (nodup_lenK _ _), ?_⟩
    refine List.Pairwise.imp_of_mem (fun {i j} hi hj hij a ha b hb e => ?_) List.pairwise_lt_range
    obtain ⟨r, _, rfl⟩ := List.mem_map.mp ha
    obtain ⟨r', _, rfl⟩ := List.mem_map.mp hb
    have h1 := List.append_inj_right' e rfl
    have h2 := (List.cons.inj h1).1
    have := List.mem_range.mp hi
    have := List.mem_range.mp hj
    omega
  · show l ∈ lenF few p ↔ _
    rw [mem_lenF hf, List.mem_flatMap]
    constructor
    · rintro ⟨h1, h2⟩
      have hne : l ≠ [] := fun z => by rw [z] at h1; simp at h1; omega
      have e := List.dropLast_concat_getLast hne
      have hx := h2 _ (List.getLast_mem hne)
      have hs : l.dropLast.sum + l.getLast hne = p := by
        rw [← h1]
        conv => rhs; rw [← e]
        rw [List.sum_append]
        simp
      refine ⟨l.dropLast.sum, List.mem_range.mpr (by omega), List.mem_map.mpr ⟨l.dropLast, (mem_lenF hf).mpr ⟨rfl, fun x hx => h2 x (List.dropLast_subset _ hx)⟩, ?_⟩⟩
      rw [show p - l.dropLast.sum = l.getLast hne by omega]
      exact e
    · rintro ⟨b, hb, hl⟩
      obtain ⟨r, hr, rfl⟩ := List.mem_map.mp hl
      obtain ⟨h1, h2⟩ := (mem_lenF hf).mp hr
      have := List.mem_range.mp hb
      refine ⟨by rw [List.sum_append, h1]; simp; omega, fun x hx => ?_⟩
      rcases List.mem_append.mp hx with z | z
      · exact h2 x z
      · rw [List.mem_singleton.mp z]; omega
theorem len_none {few : Nat} (hf : 1 ≤ few) {p : Nat} : lenF few p = [] ↔ 0 < p ∧ p < few := by
  constructor
  · intro e
    by_cases c : p = 0
    · subst c
      have : ([] : List Nat) ∈ lenF few 0 := (mem_lenF hf).mpr ⟨rfl, fun x h => nomatch h⟩
      rw [e] at this
      cases this
    · refine ⟨by omega, ?_⟩
      by_cases d : p < few
      · exact d
      · have : [p] ∈ lenF few p := (mem_lenF hf).mpr ⟨by simp, fun x h => by rw [List.mem_singleton.mp h]; omega⟩
        rw [e] at this
        cases this
  · rintro ⟨h1, h2⟩
    cases e : lenF few p with
    | nil => rfl
    | cons l r =>
      have hm : l ∈ lenF few p := by rw [e]; exact List.mem_cons_self
      obtain ⟨a, b⟩ := (mem_lenF hf).mp hm
      cases l with
      | nil => simp at a; omega
      | cons x r' =>
        have := b x List.mem_cons_self
        rw [List.sum_cons] at a
        omega
/-! what they cost -/
def costG (bits : Option Nat) (cost : Int) (ns : List Int) : Nat → List Nat → Int
  | _, [] => 0
  | b, x :: r => cost + strP bits (slc ns b (b + x)) + costG bits cost ns (b + x) r
theorem costG_snoc {bits : Option Nat} {cost : Int} {ns : List Int} : ∀ (l : List Nat) (b x : Nat), costG bits cost ns b (l ++ [x]) = costG bits cost ns b l + (cost + strP bits (slc ns (b + l.sum) (b + l.sum + x)))
  | [], b, x => by
    show cost + strP bits (slc ns b (b + x)) + 0 = 0 + _
    rw [List.sum_nil, Nat.add_zero]
    omega
  | y :: r, b, x => by
    show cost + _ + costG bits cost ns (b + y) (r ++ [x]) = cost + _ + costG bits cost ns (b + y) r + _
    rw [costG_snoc r, List.sum_cons, show b + y + r.sum = b + (y + r.sum) by omega]
    omega
def costs (bits : Option Nat) (few : Nat) (cost : Int) (ns : List Int) (p : Nat) : List Int := (lenF few p).map (costG bits cost ns 0)
theorem costs_perm {bits : Option Nat} {few : Nat} {cost : Int} {ns : List Int} (hf : 1 ≤ few) {p : Nat} (hp : 0 < p) : (costs bits few cost ns p).Perm ((List.range (p + 1 - few)).flatMap fun b => (costs bits few cost ns b).map (· + (cost + strP bits (slc ns b p)))) := by
  have h := (len_perm hf hp).map (costG bits cost ns 0)
  unfold costs
  refine h.trans (List.Perm.of_eq ?_)
  rw [List.map_flatMap, List.flatMap_def, List.flatMap_def]
  congr 1
  refine List.map_congr_left fun b hb => ?_
  have hb' := List.mem_range.mp hb
  rw [List.map_map, List.map_map]
  refine List.map_congr_left fun l hl => ?_
  have hs := ((mem_lenF hf).mp hl).1
  show costG bits cost ns 0 (l ++ [p - b]) = costG bits cost ns 0 l + _
  rw [costG_snoc, hs, Nat.zero_add, show b + (p - b) = p by omega]
/-! the least one and how many have it -/
def statOf (l : List Int) : Option Int × Nat := if l = [] then (none, 0) else (some (minI l), l.count (minI l))
theorem statOf_ne {l : List Int} (h : l ≠ []) : statOf l = (some (minI l), l.count (minI l)) := by unfold statOf; rw [if_neg h]
theorem stat_perm {l k : List Int} (h : l.Perm k) : statOf l = statOf k := by
  by_cases c : l = []
  · subst c
    rw [List.nil_perm.mp h]
  · have c' : k ≠ [] := fun z => c (by rw [z] at h; exact List.perm_nil.mp h)
    rw [statOf_ne c, statOf_ne c']
    have hm : minI l = minI k := by
      obtain ⟨h1, h2⟩ := minI_mem' c
      exact min_uniq (h.mem_iff.mp h1) fun y hy => h2 y (h.mem_iff.mpr hy)
    rw [hm, h.count_eq]
def statStep (s t : Option Int × Nat) (c : Int) : Option Int × Nat := match t.1 with
  | none => s
  | some m => match s.1 with
    | none => (some (m + c), t.2)
    | some v => if m + c < v then (some (m + c), t.2) else if m + c = v then (some v, s.2 + t.2) else s
theorem min_map {l : List Int} (h : l ≠ []) (c : Int) : minI (l.map (· + c)) = minI l + c := by
  obtain ⟨h1, h2⟩ := minI_mem' h
  refine (min_uniq (List.mem_map.mpr ⟨_, h1, rfl⟩) fun y hy => ?_).symm
  obtain ⟨x, hx, rfl⟩ := List.mem_map.mp hy
  have := h2 x hx
  show _ ≤ x + c
  omega
theorem count_map (l : List Int) (c v : Int) : (l.map (· + c)).count (v + c) = l.count v := by
  induction l with
  | nil => rfl
  | cons x r ih =>
    rw [List.map_cons, List.count_cons, List.count_cons, ih]
    congr 1
    by_cases d : x = v
    · subst d; simp
    · have : ¬ x + c = v + c := by omega
      simp [d, this]
theorem count_low {l : List Int} {v : Int} (h : ∀ y ∈ l, v < y) : l.count v = 0 := by
  rw [List.count_eq_zero]
  intro z
  have := h v z
  omega
theorem stat_step (l k : List Int) (c : Int) : statOf (l ++ k.map (· + c)) = statStep (statOf l) (statOf k) c := by
  by_cases ek : k = []
  · subst ek
    rw [List.map_nil, List.append_nil]
    rfl
  have hk' : k.map (· + c) ≠ [] := fun z => ek (List.map_eq_nil_iff.mp z)
  obtain ⟨k1, k2⟩ := minI_mem' ek
  rw [statOf_ne ek]
  by_cases el : l = []
  · subst el
    rw [List.nil_append, statOf_ne hk', min_map ek, count_map]
    rfl
  obtain ⟨l1, l2⟩ := minI_mem' el
  have hne : l ++ k.map (· + c) ≠ [] := fun z => el (List.append_eq_nil_iff.mp z).1
  rw [statOf_ne el, statOf_ne hne, List.count_append]
  have kc : ∀ y ∈ k.map (· + c), minI k + c ≤ y := fun y hy => by
    obtain ⟨x, hx, rfl⟩ := List.mem_map.mp hy
    have := k2 x hx
    show _ ≤ x + c
    omega
  show _ = if minI k + c < minI l then (some (minI k + c), k.count (minI k)) else if minI k + c = minI l then (some (minI l), l.count (minI l) + k.count (minI k)) else (some (minI l), l.count (minI l))
  by_cases c1 : minI k + c < minI l
  · rw [if_pos c1]
    have e : minI (l ++ k.map (· + c)) = minI k + c := (min_uniq (List.mem_append_right _ (List.mem_map.mpr ⟨_, k1, rfl⟩)) fun y hy => by
      rcases List.mem_append.mp hy with z | z
      · have := l2 y z; omega
      · exact kc y z).symm
    rw [e, count_map, count_low fun y hy => by have := l2 y hy; omega, Nat.zero_add]
  · rw [if_neg c1]
    have e : minI (l ++ k.map (· + c)) = minI l := (min_uniq (List.mem_append_left _ l1) fun y hy => by
      rcases List.mem_append.mp hy with z | z
      · exact l2 y z
      · have := kc y z; omega).symm
    rw [e]
    by_cases c2 : minI k + c = minI l
    · rw [if_pos c2, ← c2, count_map]
    · rw [if_neg c2, count_low (l := k.map (· + c)) fun y hy => by have := kc y hy; omega, Nat.add_zero]
/-- the total is the least cost -/
theorem tot_stat {bits : Option Nat} {few : Nat} {cost : Int} {ns : List Int} (hf : 1 ≤ few) (hF : Folds ns) (h40 : hb ns ≤ 40) : ∀ (q : Nat), q ≤ ns.length → tot (bits.getD 0) few cost ns (kinds ns bits) q = (statOf (costs bits few cost ns q)).1 := by
  intro q
  induction q using Nat.strongRecOn with
  | _ q ih =>
    intro hq
    by_cases h0 : q = 0
    · subst h0
      have e : costs bits few cost ns 0 = [0] := by
        have e1 : lenF few 0 = [[]] := by
          show ([[]] : List (List Nat)) ++ (List.range (0 + 1 - few)).flatMap _ = _
          rw [show 0 + 1 - few = 0 by omega]
          rfl
        unfold costs
        rw [e1]
        rfl
      rw [e]
      rfl
    have ok := tot_ok (bits := bits) (few := few) (cost := cost) hf hF h40 hq (by omega)
    have pm := costs_perm (bits := bits) (few := few) (cost := cost) (ns := ns) hf (p := q) (by omega)
    have mem : ∀ v, v ∈ costs bits few cost ns q ↔ ∃ b, b + few ≤ q ∧ ∃ t ∈ costs bits few cost ns b, v = t + (cost + strP bits (slc ns b q)) := fun v => by
      rw [pm.mem_iff, List.mem_flatMap]
      constructor
      · rintro ⟨b, hb, hv⟩
        obtain ⟨t, ht, rfl⟩ := List.mem_map.mp hv
        exact ⟨b, by have := List.mem_range.mp hb; omega, t, ht, rfl⟩
      · rintro ⟨b, hb, t, ht, rfl⟩
        exact ⟨b, List.mem_range.mpr (by omega), List.mem_map.mpr ⟨t, ht, rfl⟩⟩
    have sub : ∀ b, b + few ≤ q → ∀ t ∈ costs bits few cost ns b, ∃ m, tot (bits.getD 0) few cost ns (kinds ns bits) b = some m ∧ m ∈ costs bits few cost ns b ∧ m ≤ t := fun b hb t ht => by
      have hne : costs bits few cost ns b ≠ [] := fun z => by rw [z] at ht; cases ht
      refine ⟨minI (costs bits few cost ns b), ?_, (minI_mem' hne).1, (minI_mem' hne).2 t ht⟩
      rw [ih b (by omega) (by omega), statOf_ne hne]
    cases hl : las (bits.getD 0) few cost ns (kinds ns bits) q with
    | none =>
      have ht : tot (bits.getD 0) few cost ns (kinds ns bits) q = none := by
        cases q with
        | zero => exact absurd rfl h0
        | succ q =>
          show (las _ _ _ _ _ (q + 1)).map _ = none
          rw [hl]
          rfl
      rw [ht]
      have he : costs bits few cost ns q = [] := by
        cases e : costs bits few cost ns q with
        | nil => rfl
        | cons v r =>
          obtain ⟨b, hb, t, ht', _⟩ := (mem v).mp (by rw [e]; exact List.mem_cons_self)
          obtain ⟨m, hm, _⟩ := sub b hb t ht'
          exact absurd hm (ok.none_ ht b m hb)
      rw [he]
      rfl
    | some x =>
      obtain ⟨v, b, k⟩ := x
      have ht : tot (bits.getD 0) few cost ns (kinds ns bits) q = some v := by
        cases q with
        | zero => exact absurd rfl h0
        | succ q =>
          show (las _ _ _ _ _ (q + 1)).map _ = _
          rw [hl]
          rfl
      obtain ⟨hb, ⟨t, hbt, ev⟩, _, _, _, hmin⟩ := ok.some_ v b k hl
      have htm : t ∈ costs bits few cost ns b := by
        have h1 := ih b (by omega) (by omega)
        rw [hbt] at h1
        by_cases z : costs bits few cost ns b = []
        · rw [z] at h1; cases h1
        · rw [statOf_ne z] at h1
          cases h1
          exact (minI_mem' z).1
      have hv : v ∈ costs bits few cost ns q := (mem v).mpr ⟨b, hb, t, htm, by omega⟩
      have hne : costs bits few cost ns q ≠ [] := fun z => by rw [z] at hv; cases hv
      rw [ht, statOf_ne hne]
      congr 1
      refine min_uniq hv fun y hy => ?_
      obtain ⟨b', hb', t', ht', rfl⟩ := (mem y).mp hy
      obtain ⟨m, hm, _, hle⟩ := sub b' hb' t' ht'
      have := hmin b' m hb' hm
      omega
theorem tot_none {bits : Option Nat} {few : Nat} {cost : Int} {ns : List Int} (hf : 1 ≤ few) (hF : Folds ns) (h40 : hb ns ≤ 40) {q : Nat} (hq : q ≤ ns.length) : tot (bits.getD 0) few cost ns (kinds ns bits) q = none ↔ 0 < q ∧ q < few := by
  rw [tot_stat hf hF h40 q hq, ← len_none hf]
  unfold statOf costs
  by_cases c : lenF few q = []
  · rw [c]; simp
  · rw [if_neg fun z => c (List.map_eq_nil_iff.mp z)]
    exact ⟨(fun z => by cases z), fun z => absurd z c⟩
end My

namespace My
open PySem PySem.Spec PyProof.Rows L2 Pre
/-! ### cuts that are handed in, prices that hold -/
/-- a width as handed in: odd, None, a number -/
abbrev WV := Option (Option Int)
/-- a cut as handed in: no pair, or a length and a width -/
abbrev CI := Option (Int × WV)
def okW (bits : Option Nat) (xs : List Int) (l : Int) : WV → Option Int
  | none => none
  | some none => match bits with
    | some pb => if plainB pb xs = true then some ((pb : Int) * l) else none
    | none => none
  | some (some w) => if 0 ≤ w ∧ w ≤ 120 then some (price xs w.toNat) else none
def ccF (bits : Option Nat) (few : Nat) (cost : Int) (ns : List Int) : Nat → Int → List CI → Option (Nat × Int)
  | pl, t, [] => some (pl, t)
  | _, _, none :: _ => none
  | pl, t, some (l, wv) :: r => if (few : Int) ≤ l then match okW bits (slc ns pl (pl + l.toNat)) l wv with
    | some c => ccF bits few cost ns (pl + l.toNat) (t + cost + c) r
    | none => none
    else none
theorem ccF_app {bits : Option Nat} {few : Nat} {cost : Int} {ns : List Int} : ∀ (l r : List CI) (pl : Nat) (t : Int), ccF bits few cost ns pl t (l ++ r) = (ccF bits few cost ns pl t l).bind fun q => ccF bits few cost ns q.1 q.2 r
  | [], r, pl, t => rfl
  | none :: l, r, pl, t => rfl
  | some (x, wv) :: l, r, pl, t => by
    show (if (few : Int) ≤ x then match okW bits (slc ns pl (pl + x.toNat)) x wv with
      | some c => ccF bits few cost ns (pl + x.toNat) (t + cost + c) (l ++ r)
      | none => none else none) = Option.bind (if (few : Int) ≤ x then match okW bits (slc ns pl (pl + x.toNat)) x wv with
      | some c => ccF bits few cost ns (pl + x.toNat) (t + cost + c) l
      | none => none else none) _
    by_cases c : (few : Int) ≤ x
    · rw [if_pos c, if_pos c]
      cases okW bits (slc ns pl (pl + x.toNat)) x wv with
      | none => rfl
      | some c => exact ccF_app l r _ _
    · rw [if_neg c, if_neg c]
      rfl
/-- no stretch costs less than the prices of its ends are apart -/
def Hold (bits : Option Nat) (few : Nat) (cost : Int) (ns ps : List Int) : Prop := ∀ b p, b + few ≤ p → p ≤ ns.length → ps.getD p 0 - ps.getD b 0 ≤ cost + strP bits (slc ns b p)
/-- a paper as handed in -/
abbrev PD := Option (Int × Option (List CI) × Option (List Int))
def Paper (bits : Option Nat) (few : Nat) (cost : Int) (ns : List Int) : PD → Prop
  | some (t, some cs, some ps) => ccF bits few cost ns 0 0 cs = some (ns.length, t) ∧ ps.length = ns.length + 1 ∧ ps.getD ns.length 0 - ps.getD 0 0 = t ∧ Hold bits few cost ns ps
  | _ => False
/-! what least_cuts tells -/
def cutsU (L : Nat → Bst) : Nat → Nat → List (Nat × Kd)
  | 0, _ => []
  | f + 1, p => if p = 0 then [] else match L p with
    | some (_, b, k) => cutsU L f b ++ [(p - b, k)]
    | none => []
def ciK (q : Nat × Kd) : CI := some ((q.1 : Int), some (q.2.map fun (w : Nat) => (w : Int)))
theorem kind_40 {ns : List Int} {bits : Option Nat} (h40 : hb ns ≤ 40) {w : Nat} (h : some w ∈ kinds ns bits) : w ≤ 40 := by
  unfold kinds at h
  rcases List.mem_append.mp h with h | h
  · obtain ⟨x, hx, e⟩ := List.mem_map.mp h
    cases e
    have := List.mem_range.mp hx
    omega
  · cases bits with
    | none => cases h
    | some pb => cases List.mem_singleton.mp h
theorem kind_none {ns : List Int} {bits : Option Nat} (h : none ∈ kinds ns bits) : ∃ pb, bits = some pb := by
  unfold kinds at h
  rcases List.mem_append.mp h with h | h
  · obtain ⟨x, _, e⟩ := List.mem_map.mp h
    cases e
  · cases bits with
    | none => cases h
    | some pb => exact ⟨pb, rfl⟩
section
variable {bits : Option Nat} {few : Nat} {cost : Int} {ns : List Int}
theorem tot_las {q : Nat} (h : 0 < q) : tot (bits.getD 0) few cost ns (kinds ns bits) q = (las (bits.getD 0) few cost ns (kinds ns bits) q).map fun x => x.1 := by
  cases q with
  | zero => exact absurd h (Nat.lt_irrefl 0)
  | succ q => rfl
theorem cuts_right (hf : 1 ≤ few) (hF : Folds ns) (h40 : hb ns ≤ 40) : ∀ (f q : Nat) (v : Int), q ≤ f → q ≤ ns.length → tot (bits.getD 0) few cost ns (kinds ns bits) q = some v → ccF bits few cost ns 0 0 ((cutsU (las (bits.getD 0) few cost ns (kinds ns bits)) f q).map ciK) = some (q, v)
  | 0, q, v, h, _, ht => by
    obtain rfl : q = 0 := by omega
    cases ht
    rfl
  | f + 1, q, v, h, hq, ht => by
    by_cases h0 : q = 0
    · subst h0
      cases ht
      rfl
    · have ok := tot_ok (bits := bits) (few := few) (cost := cost) hf hF h40 hq (by omega)
      rw [tot_las (by omega)] at ht
      cases hl : las (bits.getD 0) few cost ns (kinds ns bits) q with
      | none => rw [hl] at ht; cases ht
      | some x =>
        obtain ⟨v', b, k⟩ := x
        rw [hl] at ht
        obtain rfl : v' = v := Option.some.inj ht
        obtain ⟨hb, ⟨t, hbt, ev⟩, hk, ha, hc, _⟩ := ok.some_ v' b k hl
        have ih := cuts_right hf hF h40 f b t (by omega) (by omega) hbt
        show ccF bits few cost ns 0 0 ((if q = 0 then [] else match las (bits.getD 0) few cost ns (kinds ns bits) q with
          | some (_, b, k) => cutsU (las (bits.getD 0) few cost ns (kinds ns bits)) f b ++ [(q - b, k)]
          | none => []).map ciK) = _
        rw [if_neg h0, hl]
        dsimp only
        rw [List.map_append, ccF_app, ih]
        show ccF bits few cost ns b t [some (((q - b : Nat) : Int), some (k.map fun (w : Nat) => (w : Int)))] = _
        have e1 : b + (((q - b : Nat) : Int)).toNat = q := by rw [Int.toNat_natCast]; omega
        show (if (few : Int) ≤ ((q - b : Nat) : Int) then match okW bits (slc ns b (b + (((q - b : Nat) : Int)).toNat)) ((q - b : Nat) : Int) (some (k.map fun (w : Nat) => (w : Int))) with
          | some c => some (b + (((q - b : Nat) : Int)).toNat, t + cost + c)
          | none => none else none) = _
        rw [if_pos (by omega), e1]
        have e2 : okW bits (slc ns b q) ((q - b : Nat) : Int) (some (k.map fun (w : Nat) => (w : Int))) = some (cst (bits.getD 0) k ns b q) := by
          cases k with
          | some w =>
            have hw := kind_40 h40 hk
            show (if 0 ≤ (w : Int) ∧ (w : Int) ≤ 120 then some (price (slc ns b q) ((w : Int)).toNat) else none) = _
            rw [if_pos (by omega), Int.toNat_natCast, cst_price (by omega)]
            rfl
          | none =>
            obtain ⟨pb, rfl⟩ := kind_none hk
            show (if plainB pb (slc ns b q) = true then some ((pb : Int) * ((q - b : Nat) : Int)) else none) = some (cst pb none ns b q)
            have hpl : plainB pb (slc ns b q) = true := (allow_none hF.nn (by omega)).mp ha
            rw [if_pos hpl, cst_plain (by omega) hq]
        rw [e2]
        show some (q, t + cost + cst (bits.getD 0) k ns b q) = some (q, v')
        rw [hc, ev]
        congr 2
        omega
/-- the prices that are told -/
def prsF (L : List (Option Int)) (high : Int) : List Int := L.map fun o => o.getD high
theorem hold_told (hf : 1 ≤ few) (hF : Folds ns) (h40 : hb ns ≤ 40) (hc : 0 ≤ cost) {high : Int} (hh : ∀ q, q ≤ ns.length → ∀ v, tot (bits.getD 0) few cost ns (kinds ns bits) q = some v → v ≤ high) :
    Hold bits few cost ns (prsF ((List.range (ns.length + 1)).map (tot (bits.getD 0) few cost ns (kinds ns bits))) high) := by
  have g : ∀ q, q ≤ ns.length → (prsF ((List.range (ns.length + 1)).map (tot (bits.getD 0) few cost ns (kinds ns bits))) high).getD q 0 = (tot (bits.getD 0) few cost ns (kinds ns bits) q).getD high := fun q hq => by
    unfold prsF
    rw [List.getD_eq_getElem?_getD, List.getElem?_map, List.getElem?_map, List.getElem?_range (by omega)]
    rfl
  intro b p hb hp
  rw [g p hp, g b (by omega)]
  have ok := tot_ok (bits := bits) (few := few) (cost := cost) hf hF h40 hp (by omega)
  have hs : 0 ≤ strP bits (slc ns b p) := str_nn (fun n hn => by
    obtain ⟨i, _, _, h3⟩ := slc_at (by omega) hn
    exact hF.nn n (List.mem_of_getElem? h3)) bits
  cases eb : tot (bits.getD 0) few cost ns (kinds ns bits) b with
  | some t =>
    cases ep : tot (bits.getD 0) few cost ns (kinds ns bits) p with
    | none => exact absurd eb (ok.none_ ep b t hb)
    | some v =>
      have ep' := ep
      rw [tot_las (by omega)] at ep'
      cases hl : las (bits.getD 0) few cost ns (kinds ns bits) p with
      | none => rw [hl] at ep'; cases ep'
      | some x =>
        obtain ⟨v', b0, k⟩ := x
        rw [hl] at ep'
        obtain rfl : v' = v := Option.some.inj ep'
        have := (ok.some_ v' b0 k hl).2.2.2.2.2 b t hb eb
        show v' - t ≤ _
        omega
  | none =>
    show (tot (bits.getD 0) few cost ns (kinds ns bits) p).getD high - high ≤ _
    cases ep : tot (bits.getD 0) few cost ns (kinds ns bits) p with
    | none => show high - high ≤ _; omega
    | some v =>
      have := hh p hp v ep
      show v - high ≤ _
      omega
end
end My

namespace My
open PySem PySem.Spec PyProof.Rows L2 Pre
/-! ### high_bits, sums_ahead, the class Way -/
theorem maxI_hb : ∀ ns : List Int, ∀ M : Int, M ∈ (ns.map fun n => ((Builtin.Int.intBits n : Nat) : Int)) ++ [0] → (∀ y ∈ (ns.map fun n => ((Builtin.Int.intBits n : Nat) : Int)) ++ [0], y ≤ M) → M = (hb ns : Int) := fun ns M h1 h2 => by
  have key : ∀ ns : List Int, (∀ y ∈ (ns.map fun n => ((Builtin.Int.intBits n : Nat) : Int)) ++ [0], y ≤ (hb ns : Int)) ∧ (hb ns : Int) ∈ (ns.map fun n => ((Builtin.Int.intBits n : Nat) : Int)) ++ [0] := fun ns => by
    induction ns with
    | nil => simp [hb]
    | cons n ns ih =>
      obtain ⟨i1, i2⟩ := ih
      rw [List.map_cons, List.cons_append]
      refine ⟨fun y hy => ?_, ?_⟩
      · rcases List.mem_cons.mp hy with rfl | hy
        · show _ ≤ ((max _ _ : Nat) : Int); omega
        · have := i1 y hy
          show _ ≤ ((max _ _ : Nat) : Int)
          omega
      · show ((max (Builtin.Int.intBits n) (hb ns) : Nat) : Int) ∈ _
        rcases Nat.le_total (Builtin.Int.intBits n) (hb ns) with c | c
        · rw [Nat.max_eq_right c]; exact List.mem_cons_of_mem _ i2
        · rw [Nat.max_eq_left c]; exact List.mem_cons_self
  obtain ⟨k1, k2⟩ := key ns
  exact Int.le_antisymm (k1 M h1) (h2 _ k2)
def kdV : Kd → V
  | some w => .int (w : Int)
  | none => .non
def BestV (H : Hp) (v : V) : Option (Int × Nat) → Prop
  | none => v = .non
  | some (m, b) => ∃ t, v = .ref t ∧ H t = some (.tup [.int m, .int (b : Int)])
def sumsL (pb : Nat) (k : Kd) (ns : List Int) : List Int := (List.range (ns.length + 1)).map (sumTo pb k ns)
/-- a way in a heap -/
def WayAt (C : Addr) (H : Hp) (x : Addr) (k : Kd) (pb : Nat) (ns : List Int) (s : WS) : Prop := ∃ (dx S T : Addr) (bv : V), H x = some (.ins C dx [("kind", kdV k), ("sums", .ref S), ("shut", .ref T), ("best", bv), ("since", .int (s.snc : Nat))]) ∧ H S = some (.lst ((sumsL pb k ns).map V.int)) ∧ H T = some (.lst ((ns.map (shutK pb k)).map V.bl)) ∧ BestV H bv s.bst
/-- all but one thing -/
def Butx (x : Addr) (H H' : Hp) : Prop := ∀ b o, b ≠ x → H b = some o → H' b = some o
theorem WayAt.but {C : Addr} {H H' : Hp} {x y : Addr} {k : Kd} {pb : Nat} {ns : List Int} {s : WS} (h : WayAt C H y k pb ns s) (n : y ≠ x) (hx : ∃ dx fs, H x = some (.ins C dx fs)) (s' : Butx x H H') : WayAt C H' y k pb ns s := by
  obtain ⟨dx, S, T, bv, h1, h2, h3, h4⟩ := h
  obtain ⟨dx', fs, hx⟩ := hx
  refine ⟨dx, S, T, bv, s' _ _ n h1, s' _ _ (fun z => by rw [z, hx] at h2; cases h2) h2, s' _ _ (fun z => by rw [z, hx] at h3; cases h3) h3, ?_⟩
  cases hb : s.bst with
  | none => rw [hb] at h4; exact h4
  | some q =>
    rw [hb] at h4
    obtain ⟨t, e, ht⟩ := h4
    exact ⟨t, e, s' _ _ (fun z => by rw [z, hx] at ht; cases ht) ht⟩
theorem WayAt.same {C : Addr} {H H' : Hp} {y : Addr} {k : Kd} {pb : Nat} {ns : List Int} {s : WS} (h : WayAt C H y k pb ns s) (s' : Same H H') : WayAt C H' y k pb ns s := by
  obtain ⟨dx, S, T, bv, h1, h2, h3, h4⟩ := h
  refine ⟨dx, S, T, bv, s' _ _ h1, s' _ _ h2, s' _ _ h3, ?_⟩
  cases hb : s.bst with
  | none => rw [hb] at h4; exact h4
  | some q =>
    rw [hb] at h4
    obtain ⟨t, e, ht⟩ := h4
    exact ⟨t, e, s' _ _ ht⟩
/-- a heap without one thing -/
def Msk (g : Addr) (H : Hp) : Hp := fun b => if b = g then none else H b
theorem msk_at {g a : Addr} {H : Hp} {o : HO} (h : H a = some o) (n : a ≠ g) : Msk g H a = some o := by unfold Msk; rw [if_neg n, h]
theorem msk_same {g : Addr} {H : Hp} : Same (Msk g H) H := fun b o h => by
  unfold Msk at h
  by_cases c : b = g
  · rw [if_pos c] at h; cases h
  · rwa [if_neg c] at h
theorem msk_mono {g : Addr} {H H' : Hp} (h : Same H H') : Same (Msk g H) (Msk g H') := fun b o e => by
  unfold Msk at e ⊢
  by_cases c : b = g
  · rw [if_pos c] at e; cases e
  · rw [if_neg c] at e ⊢
    exact h b o e
theorem msk_upd {g : Addr} {H : Hp} {u : HO} : Same (Msk g H) (Msk g (upd H g u)) := fun b o e => by
  unfold Msk at e ⊢
  by_cases c : b = g
  · rw [if_pos c] at e; cases e
  · rw [if_neg c] at e ⊢
    rw [upd_ne c]
    exact e
theorem sums_at {pb : Nat} {k : Kd} {ns : List Int} {p : Nat} (h : p ≤ ns.length) : ((sumsL pb k ns).map V.int)[p]? = some (.int (sumTo pb k ns p)) := by
  unfold sumsL
  rw [List.getElem?_map, List.getElem?_map, List.getElem?_range (by omega)]
  rfl
theorem shut_at {pb : Nat} {k : Kd} {ns : List Int} {p : Nat} (h : p < ns.length) : ((ns.map (shutK pb k)).map V.bl)[p]? = some (.bl (shutAt pb k ns p)) := by
  unfold shutAt
  rw [List.getElem?_map, List.getElem?_map, List.getElem?_eq_getElem h]
  rfl
local macro_rules | `(tactic| walk_at "go") => `(tactic| repeat (first | (with_reducible first | refine iteT ?_ | refine iteF ?_ | refine iteNtt ?_ | refine iteNff ?_ | refine iteET (by omega) ?_ | refine iteEF (by omega) ?_ | refine iteENT (by omega) ?_ | refine iteENF (by omega) ?_ | refine iteDT (by omega) ?_ | refine iteDF (by omega) ?_ | refine iteNT (by omega) ?_ | refine iteNF (by omega) ?_) | refine ⟨_, rfl, ?_⟩ | refine ⟨_, _, rfl, rfl, ?_⟩ | refine ⟨_, _, rfl, ?_⟩ | refine ⟨rfl, ?_⟩ | refine .inl ⟨_, rfl, ?_⟩ | refine .inr ⟨_, rfl, ?_⟩))
local macro_rules | `(tactic| walk_at "b") => `(tactic| try dsimp (config := { proj := false, iota := false, eta := false, zeta := false }) only)
section
variable {P : Program} {w : World} {K : PySem.W.Frag} {mg : Str → Option Value} {base : Heap}
def sp_high_bits (K : PySem.W.Frag) : Sp := fun vs H Q _ => ∃ (a : Addr) (ns : List Int), vs = [.ref a] ∧ SqL K H a (ns.map V.int) ∧ ns.length ≤ 1000 ∧ ∀ H', Same H H' → Q (.int (hb ns : Nat)) H'
theorem G_high_bits (T : Top K mg) : FnOk P w K mg base CX0 1 T.f_high_bits T.fd_high_bits ["folds"] (sp_high_bits K) := by
  refine T.F_high_bits.ok sc_high_bits (fun vs H Q E h => by obtain ⟨a, ns, rfl, _⟩ := h; rfl) (fun cdv A outer s H vs Q E hr h => ?_)
  obtain ⟨a, ns, rfl, hA, hl, q⟩ := h
  refine ⟨_, PSs.nox (pss_one (ps_ret (pe_callB (k_max K rfl rfl) (by rfl) T.n_max (by decide +kernel) (pa_cons (pe_op op_cat (pe_lc (own := [("unit", 1)]) (g := gName 1) (tt := tYes) (by rfl) sc_high_bits.nd (k_piL K rfl (pv 0)) (blkOk_by (own := [("unit", 1)]) (N := N_high_bits) (sc := defScope s_high_bits) (by decide +kernel)) (fun _ _ _ _ _ => (pg_name (i := 1) sc_high_bits.nd rfl (by first | exact Or.inl rfl | exact Or.inr rfl))) (fun _ _ _ _ _ => pts_nil) (fun _ _ _ _ _ => (pe_bits (pv 1)))) (pe_lst (pa_cons pe_int pa_nil))) pa_nil)))), ?_⟩
  refine ⟨_, rfl, a, rfl, ⟨_, hA⟩, fun D nD => ?_⟩
  refine lc_mapL (K := K) (xs := ns.map V.int) ((ns.map fun n => ((Builtin.Int.intBits n : Nat) : Int)).map V.int) nD hA (by simp) (by rw [List.length_map]; exact small1000 hl) (fun x => rfl) ?_ ?_
  · intro k x y H' hx hy s Qt qt
    obtain ⟨n, hn, rfl⟩ := int_at hx
    rw [List.getElem?_map, List.getElem?_map, hn] at hy
    cases hy
    walk_at "go"
    exact qt _ (Same.refl _)
  · intro H1 s1 hD
    refine ⟨(show 1 ≤ sizeLine by decide), fun z nz => ?_⟩
    obtain ⟨H2, e2, s2, h2⟩ := fresh (.lst ([(0 : Int)].map V.int)) nz
    have e2' : upd H1 z (.lst [V.int 0]) = H2 := e2
    rw [e2']
    refine ⟨D, z, _, _, rfl, rfl, s2 _ _ hD, h2, by rw [List.length_map, List.length_map, List.length_map, sizeLine_eq]; show _ + 1 ≤ _; omega, fun c nc => ?_⟩
    rw [← List.map_append]
    obtain ⟨H3, e3, s3, h3⟩ := fresh (.lst (((ns.map fun n => ((Builtin.Int.intBits n : Nat) : Int)) ++ [0]).map V.int)) nc
    rw [e3]
    refine ⟨c, _, rfl, .inl (.inl h3), by rw [List.length_append]; show 0 < _ + 1; omega, fun M hM hle => ?_⟩
    rw [maxI_hb ns M hM hle]
    exact q _ ((s1.trans s2).trans s3)
def sp_sums_ahead (K : PySem.W.Frag) : Sp := fun vs H Q _ => ∃ (a : Addr) (ns : List Int), vs = [.ref a] ∧ SqL K H a (ns.map V.int) ∧ ns.length ≤ 1000 ∧ ∀ H' p, Same H H' → H p = none → H' p = some (.lst (((List.range (ns.length + 1)).map fun i => (ns.take i).sum).map V.int)) → Q (.ref p) H'
theorem G_sums_ahead (T : Top K mg) : FnOk P w K mg base CX0 1 T.f_sums_ahead T.fd_sums_ahead ["numbers"] (sp_sums_ahead K) := by
  refine T.F_sums_ahead.ok sc_sums_ahead (fun vs H Q E h => by obtain ⟨a, ns, rfl, _⟩ := h; rfl) (fun cdv A outer s H vs Q E hr h => ?_)
  obtain ⟨a, ns, rfl, hA, hl, q⟩ := h
  refine ⟨_, PSs.nox (pss_cons (ps_set (i := 1) sc_sums_ahead.nd rfl (by first | exact Or.inl rfl | exact Or.inr rfl) (pe_lst (pa_cons pe_int pa_nil)))
  (pss_cons (ps_for PassesOwn.never rfl (k_piL K rfl (pv 0)) (pg_name (i := 2) sc_sums_ahead.nd rfl (by first | exact Or.inl rfl | exact Or.inr rfl))
    (pss_one (ps_expr (pe_bm PySem.F.plainAttrs_list PySem.F.slot_list_append PySem.F.type_list_append mt_append (pv 1) (pa_cons (pe_op op_add (pe_ix (k_ixL K rfl) (pv 1) (pe_un un_neg pe_int) (fun _ _ => rfl)) (pv 2)) pa_nil)))))
  (pss_one (ps_ret (pv 1))))), ?_⟩
  refine ⟨(by show 1 ≤ sizeLine; decide), fun p np => ?_⟩
  obtain ⟨H1, e1, s1, hp⟩ := fresh (.lst [V.int 0]) np
  rw [e1]
  have pre : ∀ i x, ns[i]? = some x → ((List.range (i + 1 + 1)).map fun j => (ns.take j).sum) = ((List.range (i + 1)).map fun j => (ns.take j).sum) ++ [(ns.take i).sum + x] := fun i x hx => by
    rw [List.range_succ (n := i + 1), List.map_append]
    show _ ++ [(ns.take (i + 1)).sum] = _
    rw [List.take_add_one, hx, List.sum_append]
    simp
  refine ⟨_, rfl, a, rfl, ⟨_, s1.seq hA⟩, ?_⟩
  refine for_list (K := K) (a := a) (xs := ns.map V.int) (fun i σ HA => ∃ v2 : Option V, σ = [some (.ref a), some (.ref p), v2] ∧ Same H HA ∧ HA p = some (.lst (((List.range (i + 1)).map fun j => (ns.take j).sum).map V.int))) ⟨none, rfl, s1, hp⟩ (fun i σ HA _ ⟨_, _, s, _⟩ => s.seq hA) ?_ ?_
  · rintro i x σ HA hx ⟨v2, rfl, sA, hpA⟩
    obtain ⟨n, hn, rfl⟩ := int_at hx
    have hi : i < ns.length := (List.getElem?_eq_some_iff.mp hn).1
    have hlast : atI (((List.range (i + 1)).map fun j => (ns.take j).sum).map V.int) (-1) = some (.int (ns.take i).sum) := by
      rw [List.range_succ, List.map_append, List.map_append]
      exact atI_last _ _
    refine ⟨_, rfl, .inl ⟨rfl, _, .inl (.inl hpA)⟩, _, rfl, _, rfl, p, _, _, _, rfl, rfl, .inl (.inl hpA), hlast, _, rfl, _, _, rfl, rfl, p, _, _, rfl, rfl, hpA, by rw [List.length_map, List.length_map, List.length_range, sizeLine_eq]; omega, ?_⟩
    refine ⟨_, rfl, fun b o h => ?_, ?_⟩
    · rw [upd_ne fun z => by rw [z, np] at h; cases h]
      exact sA _ _ h
    · rw [upd_same, pre i n hn, List.map_append]
      rfl
  · rintro σ HA ⟨v2, rfl, sA, hpA⟩
    rw [List.length_map] at hpA
    exact ⟨_, rfl, q HA p sA np hpA⟩
def sp_Way___init__ (C : Addr) (K : PySem.W.Frag) : Sp := fun vs H Q _ => ∃ (x dx a : Addr) (ns : List Int) (k : Kd) (bv : Int) (pb : Nat), vs = [.ref x, .ref a, kdV k, .int bv] ∧ H x = some (.ins C dx []) ∧ SqL K H a (ns.map V.int) ∧ ns.length ≤ 1000 ∧ (∀ w, k = some w → w ≤ 100) ∧ (k = none → bv = (pb : Int) ∧ pb ≤ 1000) ∧ ∀ H', Butx x H H' → WayAt C H' x k pb ns ⟨none, 0⟩ → (∀ D, D ≠ x → H D ≠ none → WayAt C (Msk D H') x k pb ns ⟨none, 0⟩) → Q .non H'
theorem G_Way___init__ (T : Top K mg) : FnOk P w K mg base CX0 2 T.f_Way___init__ T.fd_Way___init__ ["self", "folds", "width", "bits"] (sp_Way___init__ T.C_Way K) := by
  refine T.F_Way___init__.ok sc_Way___init__ (fun vs H Q E h => by obtain ⟨x, dx, a, ns, k, bv, pb, rfl, _⟩ := h; rfl) (fun cdv A outer s H vs Q E hr h => ?_)
  obtain ⟨x, dx, a, ns, k, bv, pb, rfl, hx, hA, hl, hk, hk2, q⟩ := h
  refine ⟨_, PSs.nox (pss_cons (ps_fld (pv 0) (pv 2) rfl)
  (pss_cons (ps_fld (pv 0) (pe_call (G_sums_ahead T) (hr.mono (by decide)) (by rfl) T.g_sums_ahead T.F_sums_ahead.kp T.b_sums_ahead .nil pass0 (pa_cons (pe_lc (own := [("unit", 4)]) (g := gName 4) (tt := tYes) (by rfl) sc_Way___init__.nd (k_piL K rfl (pv 1)) (blkOk_by (own := [("unit", 4)]) (N := N_Way___init__) (sc := defScope s_Way___init__) (by decide +kernel)) (fun _ _ _ _ _ => (pg_name (i := 4) sc_Way___init__.nd rfl (by first | exact Or.inl rfl | exact Or.inr rfl))) (fun _ _ _ _ _ => pts_nil) (fun _ _ _ _ _ => (pe_ifExp (pt_cmpR op_isN (pv 2) pe_non (nomark _)) (pv 3) (pe_op op_add (pe_op op_add (pe_op op_shr (pv 4) (pv 2)) pe_int) (pv 2))))) pa_nil)) rfl)
  (pss_cons (ps_fld (pv 0) (pe_lc (own := [("unit", 4)]) (g := gName 4) (tt := tYes) (by rfl) sc_Way___init__.nd (k_piL K rfl (pv 1)) (blkOk_by (own := [("unit", 4)]) (N := N_Way___init__) (sc := defScope s_Way___init__) (by decide +kernel)) (fun _ _ _ _ _ => (pg_name (i := 4) sc_Way___init__.nd rfl (by first | exact Or.inl rfl | exact Or.inr rfl))) (fun _ _ _ _ _ => pts_nil) (fun _ _ _ _ _ => (pe_and (pe_cmpR op_isN (pv 2) pe_non (nomark _)) (pe_one (pe_cmpR op_gt (pe_op op_shr (pv 4) (pv 3)) pe_int (nomark _)))))) rfl)
  (pss_cons (ps_fld (pv 0) pe_non rfl)
  (pss_one (ps_fld (pv 0) pe_int rfl)))))), ?_⟩
  have eput : ∀ f v fs, putF f v fs = putF f v fs := fun _ _ _ => rfl
  -- kind
  refine ⟨_, rfl, _, rfl, x, T.C_Way, dx, _, rfl, hx, T.cl_Way, T.na_Way_kind, by decide, ?_⟩
  obtain ⟨H1, e1⟩ : ∃ H1, upd H x (.ins T.C_Way dx (putF (Str.ofString "kind") (kdV k) [])) = H1 := ⟨_, rfl⟩
  rw [e1]
  have bx1 : Butx x H H1 := fun b o n h => by rw [← e1, upd_ne n]; exact h
  have hx1 : H1 x = some (.ins T.C_Way dx [("kind", kdV k)]) := by rw [← e1, upd_same]; rfl
  have hA1 : SqL K H1 a (ns.map V.int) := by
    rcases hA with hA | hA
    · rcases hA with hA | ⟨o, hA⟩
      · exact .inl (.inl (bx1 _ _ (fun z => by rw [z, hx] at hA; cases hA) hA))
      · exact .inl (.inr ⟨o, bx1 _ _ (fun z => by rw [z, hx] at hA; cases hA) hA⟩)
    · exact .inr hA
  have hlen : (ns.map V.int).length = ns.length := List.length_map ..
  -- sums
  refine ⟨_, rfl, a, rfl, ⟨_, hA1⟩, fun D nD => ?_⟩
  refine lc_mapL (K := K) (a := a) (xs := ns.map V.int) ((ns.map (wgt pb k)).map V.int) nD hA1 (by rw [hlen, List.length_map, List.length_map]) (by rw [hlen]; exact small1000 hl) (fun x => rfl) ?_ ?_
  · intro i y z H' hy hz s' Qt qt
    obtain ⟨n, hn, rfl⟩ := int_at hy
    rw [List.getElem?_map, List.getElem?_map, hn] at hz
    cases hz
    refine ⟨_, rfl, rfl, _, rfl, ?_⟩
    cases k with
    | none =>
      obtain ⟨rfl, _⟩ := hk2 rfl
      exact iteT ⟨_, rfl, qt _ (Same.refl _)⟩
    | some w =>
      refine iteF ?_
      exact ⟨_, rfl, _, rfl, _, _, rfl, rfl, Int.natCast_nonneg _, _, _, rfl, rfl, _, rfl, _, _, rfl, rfl, qt _ (Same.refl _)⟩
  intro H2 s2 hD
  refine ⟨D, ns.map (wgt pb k), rfl, .inl (.inl hD), by rw [List.length_map]; exact hl, fun H3 S s3 nS hS => ?_⟩
  have eS : ((List.range ((ns.map (wgt pb k)).length + 1)).map fun i => ((ns.map (wgt pb k)).take i).sum) = sumsL pb k ns := by
    unfold sumsL sumTo
    rw [List.length_map]
    exact List.map_congr_left fun i _ => by rw [List.map_take]
  rw [eS] at hS
  have hx3 := s3 _ _ (s2 _ _ hx1)
  refine ⟨_, rfl, x, T.C_Way, dx, _, rfl, hx3, T.cl_Way, T.na_Way_sums, by simp, ?_⟩
  obtain ⟨H4, e4⟩ : ∃ H4, upd H3 x (.ins T.C_Way dx (putF (Str.ofString "sums") (.ref S) [("kind", kdV k)])) = H4 := ⟨_, rfl⟩
  rw [e4]
  have Sx : S ≠ x := fun z => by rw [z, hx3] at hS; cases hS
  have b34 : Butx x H3 H4 := fun b o n h => by rw [← e4, upd_ne n]; exact h
  have bx4 : Butx x H H4 := fun b o n h => b34 _ _ n (s3 _ _ (s2 _ _ (bx1 _ _ n h)))
  have hx4 : H4 x = some (.ins T.C_Way dx [("kind", kdV k), ("sums", .ref S)]) := by rw [← e4, upd_same]; rfl
  have hS4 := b34 _ _ Sx hS
  have seqx : ∀ {Ha Hb : Hp}, (∃ dx fs, Ha x = some (.ins T.C_Way dx fs)) → Butx x Ha Hb → SqL K Ha a (ns.map V.int) → SqL K Hb a (ns.map V.int) := fun {Ha Hb} ⟨dx', fs, h1⟩ b hA => by
    rcases hA with hA | hA
    · rcases hA with hA | ⟨o, hA⟩
      · exact .inl (.inl (b _ _ (fun z => by rw [z, h1] at hA; cases hA) hA))
      · exact .inl (.inr ⟨o, b _ _ (fun z => by rw [z, h1] at hA; cases hA) hA⟩)
    · exact .inr hA
  have hA4 := seqx ⟨_, _, hx⟩ bx4 hA
  -- shut
  refine ⟨_, rfl, a, rfl, ⟨_, hA4⟩, fun D2 nD2 => ?_⟩
  refine lc_mapL (K := K) (a := a) (xs := ns.map V.int) ((ns.map (shutK pb k)).map V.bl) nD2 hA4 (by rw [hlen, List.length_map, List.length_map]) (by rw [hlen]; exact small1000 hl) (fun x => rfl) ?_ ?_
  · intro i y z H' hy hz s' Qt qt
    obtain ⟨n, hn, rfl⟩ := int_at hy
    rw [List.getElem?_map, List.getElem?_map, hn] at hz
    cases hz
    refine ⟨_, rfl, rfl, _, rfl, ?_⟩
    cases k with
    | none =>
      obtain ⟨rfl, _⟩ := hk2 rfl
      refine iteT ?_
      refine ⟨_, rfl, _, rfl, _, _, rfl, rfl, Int.natCast_nonneg _, _, _, rfl, rfl, ?_⟩
      exact qt _ (Same.refl _)
    | some w => exact iteF (qt _ (Same.refl _))
  intro H5 s5 hD2
  have hx5 := s5 _ _ hx4
  refine ⟨_, rfl, x, T.C_Way, dx, _, rfl, hx5, T.cl_Way, T.na_Way_shut, by simp, ?_⟩
  obtain ⟨H6, e6⟩ : ∃ H6, upd H5 x (.ins T.C_Way dx (putF (Str.ofString "shut") (.ref D2) [("kind", kdV k), ("sums", .ref S)])) = H6 := ⟨_, rfl⟩
  rw [e6]
  have D2x : D2 ≠ x := fun z => by rw [z, hx5] at hD2; cases hD2
  have b56 : Butx x H5 H6 := fun b o n h => by rw [← e6, upd_ne n]; exact h
  have hx6 : H6 x = some (.ins T.C_Way dx [("kind", kdV k), ("sums", .ref S), ("shut", .ref D2)]) := by rw [← e6, upd_same]; rfl
  -- best, since
  refine ⟨_, rfl, x, T.C_Way, dx, _, rfl, hx6, T.cl_Way, T.na_Way_best, by simp, ?_⟩
  obtain ⟨H7, e7⟩ : ∃ H7, upd H6 x (.ins T.C_Way dx (putF (Str.ofString "best") .non [("kind", kdV k), ("sums", .ref S), ("shut", .ref D2)])) = H7 := ⟨_, rfl⟩
  rw [e7]
  have hx7 : H7 x = some (.ins T.C_Way dx [("kind", kdV k), ("sums", .ref S), ("shut", .ref D2), ("best", .non)]) := by rw [← e7, upd_same]; rfl
  refine ⟨_, rfl, x, T.C_Way, dx, _, rfl, hx7, T.cl_Way, T.na_Way_since, by simp, ?_⟩
  have b78 : Butx x H6 (upd H7 x (.ins T.C_Way dx (putF (Str.ofString "since") (.int 0) [("kind", kdV k), ("sums", .ref S), ("shut", .ref D2), ("best", .non)]))) := fun b o n h => by rw [upd_ne n, ← e7, upd_ne n]; exact h
  have hxf : upd H7 x (.ins T.C_Way dx (putF (Str.ofString "since") (.int 0) [("kind", kdV k), ("sums", .ref S), ("shut", .ref D2), ("best", .non)])) x = some (.ins T.C_Way dx [("kind", kdV k), ("sums", .ref S), ("shut", .ref D2), ("best", .non), ("since", .int 0)]) := by rw [upd_same]; rfl
  have hSf := b78 _ _ Sx (b56 _ _ Sx (s5 _ _ hS4))
  have hTf := b78 _ _ D2x (b56 _ _ D2x hD2)
  refine q _ (fun b o n h => b78 _ _ n (b56 _ _ n (s5 _ _ (bx4 _ _ n h)))) ⟨dx, S, D2, .non, hxf, hSf, hTf, rfl⟩ fun D' nDx hD' => ?_
  have inH : ∀ {Hq : Hp} {b : Addr}, (∀ o, H D' = some o → Hq D' = some o) → Hq b = none → b ≠ D' := fun {Hq b} hk nb z => by
    cases hd : H D' with
    | none => exact hD' hd
    | some o => rw [z, hk o hd] at nb; cases nb
  have sH2 : ∀ o, H D' = some o → H2 D' = some o := fun o h => s2 _ _ (bx1 _ _ nDx h)
  have sH4 : ∀ o, H D' = some o → H4 D' = some o := fun o h => bx4 _ _ nDx h
  exact ⟨dx, S, D2, .non, msk_at hxf nDx.symm, msk_at hSf (inH sH2 nS), msk_at hTf (inH sH4 nD2), rfl⟩
def sp_Way_passed (C : Addr) : Sp := fun vs H Q _ => ∃ (x : Addr) (k : Kd) (pb : Nat) (ns : List Int) (s : WS) (p : Nat), vs = [.ref x, .int p] ∧ WayAt C H x k pb ns s ∧ 0 < p ∧ p ≤ ns.length ∧ ns.length ≤ 1000 ∧ ∀ H', Butx x H H' → WayAt C H' x k pb ns (passW (shutAt pb k ns (p - 1)) p s) → Q .non H'
theorem G_Way_passed (T : Top K mg) : FnOk P w K mg base CX0 1 T.f_Way_passed T.fd_Way_passed ["self", "place"] (sp_Way_passed T.C_Way) := by
  refine T.F_Way_passed.ok sc_Way_passed (fun vs H Q E h => by obtain ⟨x, k, pb, ns, s, p, rfl, _⟩ := h; rfl) (fun cdv A outer s H vs Q E hr h => ?_)
  obtain ⟨x, k, pb, ns, s, p, rfl, hW, h0, hp, hl, q⟩ := h
  refine ⟨_, PSs.nox (pss_one (ps_if (pt_val (pe_ix (k_ixL K rfl) (pe_fld (pv 0) rfl) (pe_op op_sub (pv 1) pe_int) (fun _ _ => rfl)))
    (pss_cons (ps_fld (pv 0) pe_non rfl)
  (pss_one (ps_fld (pv 0) (pv 1) rfl)))
    pss_nil)), ?_⟩
  obtain ⟨dx, S, T', bv, h1, h2, h3, h4⟩ := id hW
  have ep : (p : Int) - 1 = ((p - 1 : Nat) : Int) := by omega
  refine ⟨_, rfl, x, T.C_Way, dx, _, _, rfl, h1, T.cl_Way, T.na_Way_shut, rfl, _, rfl, _, _, rfl, rfl, T', _, _, .bl (shutAt pb k ns (p - 1)), rfl, rfl, .inl (.inl h3), (by rw [ep]; exact atI_nat (shut_at (by omega))), _, rfl, ?_⟩
  cases hs : shutAt pb k ns (p - 1) with
  | false =>
    refine iteF ?_
    refine q H (fun b o n h => h) ?_
    rw [hs]
    exact hW
  | true =>
    refine iteT ?_
    refine ⟨_, rfl, x, T.C_Way, dx, _, rfl, h1, T.cl_Way, T.na_Way_best, by simp, ?_⟩
    obtain ⟨H7, e7⟩ : ∃ H7, upd H x (.ins T.C_Way dx (putF (Str.ofString "best") .non [("kind", kdV k), ("sums", .ref S), ("shut", .ref T'), ("best", bv), ("since", .int (s.snc : Nat))])) = H7 := ⟨_, rfl⟩
    rw [e7]
    have hx7 : H7 x = some (.ins T.C_Way dx [("kind", kdV k), ("sums", .ref S), ("shut", .ref T'), ("best", .non), ("since", .int (s.snc : Nat))]) := by rw [← e7, upd_same]; rfl
    refine ⟨_, rfl, _, rfl, x, T.C_Way, dx, _, rfl, hx7, T.cl_Way, T.na_Way_since, by simp, ?_⟩
    have b8 : Butx x H (upd H7 x (.ins T.C_Way dx (putF (Str.ofString "since") (.int (p : Int)) [("kind", kdV k), ("sums", .ref S), ("shut", .ref T'), ("best", .non), ("since", .int (s.snc : Nat))]))) := fun b o n h => by rw [upd_ne n, ← e7, upd_ne n]; exact h
    refine q _ b8 ?_
    rw [hs]
    exact ⟨dx, S, T', .non, by rw [upd_same]; rfl, b8 _ _ (fun z => by rw [z, h1] at h2; cases h2) h2, b8 _ _ (fun z => by rw [z, h1] at h3; cases h3) h3, rfl⟩
def sp_Way_begin (C : Addr) : Sp := fun vs H Q _ => ∃ (x : Addr) (k : Kd) (pb : Nat) (ns : List Int) (s : WS) (p : Nat) (t : Int), vs = [.ref x, .int p, .int t] ∧ WayAt C H x k pb ns s ∧ p ≤ ns.length ∧ ns.length ≤ 1000 ∧ ∀ H', Butx x H H' → WayAt C H' x k pb ns (begW p t (sumTo pb k ns p) s) → Q .non H'
theorem G_Way_begin (T : Top K mg) : FnOk P w K mg base CX0 1 T.f_Way_begin T.fd_Way_begin ["self", "place", "price_there"] (sp_Way_begin T.C_Way) := by
  refine T.F_Way_begin.ok sc_Way_begin (fun vs H Q E h => by obtain ⟨x, k, pb, ns, s, p, t, rfl, _⟩ := h; rfl) (fun cdv A outer s H vs Q E hr h => ?_)
  obtain ⟨x, k, pb, ns, s, p, t, rfl, hW, hp, hl, q⟩ := h
  refine ⟨_, PSs.nox (pss_cons (ps_set (i := 3) sc_Way_begin.nd rfl (by first | exact Or.inl rfl | exact Or.inr rfl) (pe_op op_sub (pv 2) (pe_ix (k_ixL K rfl) (pe_fld (pv 0) rfl) (pv 1) (fun _ _ => rfl))))
  (pss_one (ps_if (PW.pt (pw_and (pt_cmpR op_ge (pv 1) (pe_fld (pv 0) rfl) (nomark _)) (pw_and1 (PW.pt (pw_or (pt_cmpR op_isN (pe_fld (pv 0) rfl) pe_non (nomark _)) (pw_or1 (pt_cmpR op_lt (pv 3) (pe_ix (k_ixT K rfl) (pe_fld (pv 0) rfl) pe_int (fun _ _ => rfl)) (nomark _))))))))
    (pss_one (ps_fld (pv 0) (pe_tup (pa_cons (pv 3) (pa_cons (pv 1) pa_nil))) rfl))
    pss_nil))), ?_⟩
  obtain ⟨dx, S, T', bv, h1, h2, h3, h4⟩ := id hW
  refine ⟨_, rfl, _, rfl, x, T.C_Way, dx, _, _, rfl, h1, T.cl_Way, T.na_Way_sums, rfl, _, rfl, S, _, _, _, rfl, rfl, .inl (.inl h2), atI_nat (sums_at hp), _, _, rfl, rfl, ?_⟩
  refine ⟨_, rfl, _, rfl, x, T.C_Way, dx, _, _, rfl, h1, T.cl_Way, T.na_Way_since, rfl, _, _, rfl, rfl, _, rfl, ?_⟩
  by_cases c : s.snc ≤ p
  rotate_left
  · rw [show decide (((s.snc : Nat) : Int) ≤ (p : Int)) = false from decide_eq_false (by omega)]
    refine iteF ?_
    refine q H (fun b o n h => h) ?_
    unfold begW
    rw [decide_eq_false c, Bool.false_and, if_neg (by decide)]
    exact hW
  rw [show decide (((s.snc : Nat) : Int) ≤ (p : Int)) = true from decide_eq_true (by omega)]
  refine iteT ?_
  refine ⟨_, rfl, x, T.C_Way, dx, _, _, rfl, h1, T.cl_Way, T.na_Way_best, rfl, rfl, _, rfl, ?_⟩
  cases hb : s.bst with
  | none =>
    rw [hb] at h4
    obtain rfl : bv = .non := h4
    have hcond : (decide (s.snc ≤ p) && lessO (t - sumTo pb k ns p) s.bst) = true := by rw [decide_eq_true c, hb]; rfl
    refine iteT ?_
    refine ⟨_, rfl, _, rfl, (by show 2 ≤ sizeLine; decide), fun u nu => ?_⟩
    obtain ⟨H2, e2, s2, hu⟩ := fresh (.tup [V.int (t - sumTo pb k ns p), .int (p : Int)]) nu
    rw [e2]
    have h1' := s2 _ _ h1
    refine ⟨_, rfl, x, T.C_Way, dx, _, rfl, h1', T.cl_Way, T.na_Way_best, by simp, ?_⟩
    have b8 : Butx x H (upd H2 x (.ins T.C_Way dx (putF (Str.ofString "best") (.ref u) [("kind", kdV k), ("sums", .ref S), ("shut", .ref T'), ("best", .non), ("since", .int (s.snc : Nat))]))) := fun b o n h => by rw [upd_ne n]; exact s2 _ _ h
    have ux : u ≠ x := fun z => by rw [z, h1] at nu; cases nu
    refine q _ b8 ?_
    unfold begW
    rw [if_pos hcond]
    exact ⟨dx, S, T', .ref u, by rw [upd_same]; rfl, b8 _ _ (fun z => by rw [z, h1] at h2; cases h2) h2, b8 _ _ (fun z => by rw [z, h1] at h3; cases h3) h3, u, rfl, by rw [upd_ne ux]; exact hu⟩
  | some y =>
    obtain ⟨m, b0⟩ := y
    rw [hb] at h4
    obtain ⟨tb, rfl, htb⟩ := h4
    refine iteF ?_
    refine ⟨_, rfl, _, rfl, x, T.C_Way, dx, _, _, rfl, h1, T.cl_Way, T.na_Way_best, rfl, tb, _, _, _, rfl, rfl, .inl (.inl htb), atI_nat (j := 0) rfl, _, _, rfl, rfl, _, rfl, ?_⟩
    by_cases d : t - sumTo pb k ns p < m
    · have hcond : (decide (s.snc ≤ p) && lessO (t - sumTo pb k ns p) s.bst) = true := by rw [decide_eq_true c, hb]; exact decide_eq_true d
      rw [show decide (t - sumTo pb k ns p < m) = true from decide_eq_true d]
      refine iteT ?_
      refine ⟨_, rfl, _, rfl, (by show 2 ≤ sizeLine; decide), fun u nu => ?_⟩
      obtain ⟨H2, e2, s2, hu⟩ := fresh (.tup [V.int (t - sumTo pb k ns p), .int (p : Int)]) nu
      rw [e2]
      have h1' := s2 _ _ h1
      refine ⟨_, rfl, x, T.C_Way, dx, _, rfl, h1', T.cl_Way, T.na_Way_best, by simp, ?_⟩
      have b8 : Butx x H (upd H2 x (.ins T.C_Way dx (putF (Str.ofString "best") (.ref u) [("kind", kdV k), ("sums", .ref S), ("shut", .ref T'), ("best", .ref tb), ("since", .int (s.snc : Nat))]))) := fun b o n h => by rw [upd_ne n]; exact s2 _ _ h
      have ux : u ≠ x := fun z => by rw [z, h1] at nu; cases nu
      refine q _ b8 ?_
      unfold begW
      rw [if_pos hcond]
      exact ⟨dx, S, T', .ref u, by rw [upd_same]; rfl, b8 _ _ (fun z => by rw [z, h1] at h2; cases h2) h2, b8 _ _ (fun z => by rw [z, h1] at h3; cases h3) h3, u, rfl, by rw [upd_ne ux]; exact hu⟩
    · rw [show decide (t - sumTo pb k ns p < m) = false from decide_eq_false d]
      refine iteF ?_
      refine q H (fun b o n h => h) ?_
      unfold begW
      rw [if_neg (by rw [hb, Bool.and_eq_true]; exact fun z => d (of_decide_eq_true z.2))]
      exact hW
def sp_Way_least (C : Addr) : Sp := fun vs H Q _ => ∃ (x : Addr) (k : Kd) (pb : Nat) (ns : List Int) (s : WS) (p : Nat), vs = [.ref x, .int p] ∧ WayAt C H x k pb ns s ∧ p ≤ ns.length ∧ ns.length ≤ 1000 ∧ ∀ H' v, Same H H' → BestV H' v (hereW pb k ns p s) → Q v H'
theorem G_Way_least (T : Top K mg) : FnOk P w K mg base CX0 1 T.f_Way_least T.fd_Way_least ["self", "place"] (sp_Way_least T.C_Way) := by
  refine T.F_Way_least.ok sc_Way_least (fun vs H Q E h => by obtain ⟨x, k, pb, ns, s, p, rfl, _⟩ := h; rfl) (fun cdv A outer s H vs Q E hr h => ?_)
  obtain ⟨x, k, pb, ns, s, p, rfl, hW, hp, hl, q⟩ := h
  refine ⟨_, PSs.nox (pss_one (ps_ret (pe_ifExp (pt_cmpR op_isN (pe_fld (pv 0) rfl) pe_non (nomark _)) pe_non (pe_tup (pa_cons (pe_op op_add (pe_ix (k_ixT K rfl) (pe_fld (pv 0) rfl) pe_int (fun _ _ => rfl)) (pe_ix (k_ixL K rfl) (pe_fld (pv 0) rfl) (pv 1) (fun _ _ => rfl))) (pa_cons (pe_ix (k_ixT K rfl) (pe_fld (pv 0) rfl) pe_int (fun _ _ => rfl)) pa_nil)))))), ?_⟩
  obtain ⟨dx, S, T', bv, h1, h2, h3, h4⟩ := id hW
  refine ⟨_, rfl, x, T.C_Way, dx, _, _, rfl, h1, T.cl_Way, T.na_Way_best, rfl, rfl, _, rfl, ?_⟩
  unfold hereW at q
  cases hb : s.bst with
  | none =>
    rw [hb] at h4 q
    obtain rfl : bv = .non := h4
    exact iteT (q _ _ (Same.refl _) rfl)
  | some y =>
    obtain ⟨m, b0⟩ := y
    rw [hb] at h4 q
    obtain ⟨tb, rfl, htb⟩ := h4
    refine iteF ?_
    refine ⟨_, rfl, x, T.C_Way, dx, _, _, rfl, h1, T.cl_Way, T.na_Way_best, rfl, tb, _, _, _, rfl, rfl, .inl (.inl htb), atI_nat (j := 0) rfl, _, rfl, x, T.C_Way, dx, _, _, rfl, h1, T.cl_Way, T.na_Way_sums, rfl, _, rfl, S, _, _, _, rfl, rfl, .inl (.inl h2), atI_nat (sums_at hp), _, _, rfl, rfl, ?_⟩
    refine ⟨_, rfl, x, T.C_Way, dx, _, _, rfl, h1, T.cl_Way, T.na_Way_best, rfl, tb, _, _, _, rfl, rfl, .inl (.inl htb), atI_nat (j := 1) rfl, (by show 2 ≤ sizeLine; decide), fun u nu => ?_⟩
    exact q _ _ (same_upd nu) ⟨u, rfl, upd_same⟩
end
end My

namespace My
open PySem PySem.Spec PyProof.Rows L2 Pre
/-! ### ways_of, gone_along -/
theorem asg_join {te : TE} {tg : TG} {rest : TS} {D : L2.Ends} {σ : L2.St} {H : Hp} (Pv : V → Hp → Prop) (h : ∀ Q : VK, (∀ v H', Pv v H' → Q v H') → te σ H Q) (k : ∀ v H', Pv v H' → tg v σ H' (rest D)) :
    tSeq (tAsg te tg) rest D σ H := h _ k
theorem ifs_join {c : TT} {A B rest : TS} {D : L2.Ends} {σ : L2.St} {H : Hp} (Pv : L2.St → Hp → Prop) (h : ∀ nx : L2.St → Hp → Prop, (∀ σ' H', Pv σ' H' → nx σ' H') → tIfS c A B { nx := nx, rt := D.rt, bk := D.bk, ct := D.ct } σ H) (k : ∀ σ' H', Pv σ' H' → rest D σ' H') :
    tSeq (tIfS c A B) rest D σ H := h _ k
theorem ifs_end {c : TT} {A B : TS} {D : L2.Ends} {σ : L2.St} {H : Hp} (Pv : L2.St → Hp → Prop) (h : ∀ nx : L2.St → Hp → Prop, (∀ σ' H', Pv σ' H' → nx σ' H') → tIfS c A B { nx := nx, rt := D.rt, bk := D.bk, ct := D.ct } σ H) (k : ∀ σ' H', Pv σ' H' → D.nx σ' H') :
    tIfS c A B D σ H := h _ k
def totV : Option Int → V
  | some t => .int t
  | none => .non
def BstV (H : Hp) (v : V) : Bst → Prop
  | none => v = .non
  | some (m, b, k) => ∃ t, v = .ref t ∧ H t = some (.tup [.int m, .int (b : Int), kdV k])
theorem BstV.keep {H H' : Hp} {v : V} {b : Bst} (h : BstV H v b) (k : ∀ a ys, H a = some (.tup ys) → H' a = some (.tup ys)) : BstV H' v b := by
  cases b with
  | none => exact h
  | some q =>
    obtain ⟨m, b, kd⟩ := q
    obtain ⟨t, e, ht⟩ := h
    exact ⟨t, e, k _ _ ht⟩
def LasL (H : Hp) (lp : Addr) (L : List Bst) : Prop := ∃ vs : List V, H lp = some (.lst vs) ∧ vs.length = L.length ∧ ∀ (i : Nat) (v : V) (b : Bst), vs[i]? = some v → L[i]? = some b → BstV H v b
theorem WayAt.lst {C q : Addr} {H H' : Hp} {y : Addr} {k : Kd} {pb : Nat} {ns : List Int} {s : WS} {us : List V} (h : WayAt C H y k pb ns s) (hq : H q = some (.lst us)) (c1 : us ≠ (sumsL pb k ns).map V.int) (c2 : us ≠ (ns.map (shutK pb k)).map V.bl) (b : Butx q H H') : WayAt C H' y k pb ns s := by
  obtain ⟨dx, S, T, bv, h1, h2, h3, h4⟩ := h
  refine ⟨dx, S, T, bv, b _ _ (fun z => by rw [z, hq] at h1; cases h1) h1, b _ _ (fun z => by rw [z, hq] at h2; cases h2; exact c1 rfl) h2, b _ _ (fun z => by rw [z, hq] at h3; cases h3; exact c2 rfl) h3, ?_⟩
  cases hb : s.bst with
  | none => rw [hb] at h4; exact h4
  | some x =>
    rw [hb] at h4
    obtain ⟨t, e, ht⟩ := h4
    exact ⟨t, e, b _ _ (fun z => by rw [z, hq] at ht; cases ht) ht⟩
theorem WayAt.ins {C : Addr} {H : Hp} {y : Addr} {k : Kd} {pb : Nat} {ns : List Int} {s : WS} (h : WayAt C H y k pb ns s) : ∃ dx fs, H y = some (.ins C dx fs) := by
  obtain ⟨dx, _, _, _, h1, _⟩ := h
  exact ⟨dx, _, h1⟩
theorem bestL_snoc {pb few : Nat} {cost : Int} {ns : List Int} {T : List (Option Int)} {p : Nat} (l : List Kd) (k : Kd) : bestL pb few cost ns T p (l ++ [k]) none = bestU cost k (hereW pb k ns p (stW pb few k ns T p)) (bestL pb few cost ns T p l none) := by
  unfold bestL
  rw [List.foldl_append]
  rfl
def optV : Option Nat → V
  | some b => .int (b : Int)
  | none => .non
/-- ways in a heap -/
structure WaysX (C : Addr) (H : Hp) (xs : List Addr) (wk : List Kd) (pb : Nat) (ns : List Int) (st : Kd → WS) : Prop where
  len : xs.length = wk.length
  nd : xs.Nodup
  at_ : ∀ (i : Nat) (x : Addr) (k : Kd), xs[i]? = some x → wk[i]? = some k → WayAt C H x k pb ns (st k)
theorem WaysX.same {C : Addr} {H H' : Hp} {xs : List Addr} {wk : List Kd} {pb : Nat} {ns : List Int} {st : Kd → WS} (h : WaysX C H xs wk pb ns st) (s : Same H H') : WaysX C H' xs wk pb ns st := ⟨h.len, h.nd, fun i x k a b => (h.at_ i x k a b).same s⟩
theorem new_same' {C x dx : Addr} {H H' : Hp} (nx : H x = none) (ndx : H dx = none) (b : Butx x (upd (upd H dx (.own x)) x (.ins C dx [])) H') : Same H H' := fun c o h => b c o (ne_of_none h nx) (by rw [upd_ne (ne_of_none h nx), upd_ne (ne_of_none h ndx)]; exact h)
theorem new_old {C x dx : Addr} {H1 H : Hp} (s : Same H1 H) (nx : H x = none) (ndx : H dx = none) : Same H1 (upd (upd H dx (.own x)) x (.ins C dx [])) := fun c o h => by
  rw [upd_ne (ne_of_none (s _ _ h) nx), upd_ne (ne_of_none (s _ _ h) ndx)]
  exact s _ _ h
theorem WaysX.snoc {C : Addr} {H H' : Hp} {xs : List Addr} {wk : List Kd} {pb : Nat} {ns : List Int} {st : Kd → WS} {x : Addr} {k : Kd} (h : WaysX C H xs wk pb ns st) (s : Same H H') (nx : x ∉ xs) (hx : WayAt C H' x k pb ns (st k)) : WaysX C H' (xs ++ [x]) (wk ++ [k]) pb ns st := by
  refine ⟨by rw [List.length_append, List.length_append, h.len]; rfl, ?_, fun i y k' hy hk => ?_⟩
  · rw [List.nodup_append]
    exact ⟨h.nd, by simp, fun a ha b hb e => nx (by rw [← List.mem_singleton.mp hb, ← e]; exact ha)⟩
  · by_cases c : i < xs.length
    · rw [List.getElem?_append_left c] at hy
      rw [List.getElem?_append_left (by rw [← h.len]; exact c)] at hk
      exact (h.at_ i y k' hy hk).same s
    · rw [List.getElem?_append_right (by omega)] at hy
      rw [List.getElem?_append_right (by rw [← h.len]; omega), ← h.len] at hk
      have e : i - xs.length = 0 := by
        have := (List.getElem?_eq_some_iff.mp hy).1
        rw [List.length_singleton] at this
        omega
      rw [e] at hy hk
      cases hy
      cases hk
      exact hx
local macro_rules | `(tactic| walk_at "go") => `(tactic| repeat (first | (with_reducible first | refine iteT ?_ | refine iteF ?_ | refine iteNtt ?_ | refine iteNff ?_ | refine iteET (by omega) ?_ | refine iteEF (by omega) ?_ | refine iteENT (by omega) ?_ | refine iteENF (by omega) ?_ | refine iteDT (by omega) ?_ | refine iteDF (by omega) ?_ | refine iteNT (by omega) ?_ | refine iteNF (by omega) ?_) | refine ⟨_, rfl, ?_⟩ | refine ⟨_, _, rfl, rfl, ?_⟩ | refine ⟨_, _, rfl, ?_⟩ | refine ⟨rfl, ?_⟩ | refine .inl ⟨_, rfl, ?_⟩ | refine .inr ⟨_, rfl, ?_⟩))
local macro_rules | `(tactic| walk_at "b") => `(tactic| try dsimp (config := { proj := false, iota := false, eta := false, zeta := false }) only)
section
variable {P : Program} {w : World} {K : PySem.W.Frag} {mg : Str → Option Value} {base : Heap}
def sp_ways_of (C : Addr) (K : PySem.W.Frag) : Sp := fun vs H Q _ => ∃ (a : Addr) (ns : List Int) (bits : Option Nat), vs = [.ref a, optV bits] ∧ SqL K H a (ns.map V.int) ∧ ns.length ≤ 1000 ∧ hb ns ≤ 90 ∧ bits.getD 0 ≤ 1000 ∧ ∀ (H' : Hp) (L : Addr) (xs : List Addr), Same H H' → H L = none → (∀ x ∈ xs, H x = none) → H' L = some (.lst (xs.map V.ref)) → WaysX C H' xs (kinds ns bits) (bits.getD 0) ns (fun _ => ⟨none, 0⟩) → Q (.ref L) H'
theorem G_ways_of (T : Top K mg) : FnOk P w K mg base CX0 4 T.f_ways_of T.fd_ways_of ["folds", "bits"] (sp_ways_of T.C_Way K) := by
  refine T.F_ways_of.ok sc_ways_of (fun vs H Q E h => by obtain ⟨a, ns, bits, rfl, _⟩ := h; rfl) (fun cdv A outer s H vs Q E hr h => ?_)
  obtain ⟨a, ns, bits, rfl, hA, hl, hh, hbt, q⟩ := h
  refine ⟨_, PSs.nox (pss_cons (ps_setLc (i := 2) (own := [("width", 3)]) (g := gName 3) (tt := tYes) (by rfl) sc_ways_of.nd rfl rfl (sw_true rfl rfl rfl (by decide +kernel)) (pi_range1 (by rfl) T.n_range (pa_cons (pe_op op_add (pe_call (G_high_bits T) (hr.mono (by decide)) (by rfl) T.g_high_bits T.F_high_bits.kp T.b_high_bits .nil pass0 (pa_cons (pv 0) pa_nil)) pe_int) pa_nil)) (blkOk_by (own := [("width", 3)]) (N := N_ways_of) (sc := defScope s_ways_of) (by decide +kernel)) (fun _ _ _ _ _ => (pg_name (i := 3) sc_ways_of.nd rfl (by first | exact Or.inl rfl | exact Or.inr rfl))) (fun _ _ _ _ _ => pts_nil) (fun _ _ _ _ _ => (pe_make T.mk_Way (G_Way___init__ T) (hr.mono (by decide)) (by rfl) T.gc_Way T.b_Way___init__ .nil pass0 (pa_cons (pv 0) (pa_cons (pv 3) (pa_cons pe_int pa_nil))))))
  (pss_one (ps_ret (pe_ifExp (pt_cmpR op_notN (pv 1) pe_non (nomark _)) (pe_op op_cat (pv 2) (pe_lst (pa_cons (pe_make T.mk_Way (G_Way___init__ T) (hr.mono (by decide)) (by rfl) T.gc_Way T.b_Way___init__ .nil pass0 (pa_cons (pv 0) (pa_cons pe_non (pa_cons (pv 1) pa_nil)))) pa_nil))) (pv 2))))), ?_⟩
  refine ⟨_, rfl, a, ns, rfl, hA, hl, fun H1 s1 => ?_⟩
  have e1 : ((hb ns : Nat) : Int) + 1 = ((hb ns + 1 : Nat) : Int) := by omega
  have hA1 := s1.seq hA
  refine ⟨_, _, rfl, rfl, ((hb ns + 1 : Nat) : Int), by rw [← e1], by omega, by omega, fun D nD => ?_⟩
  rw [Int.toNat_natCast]
  have sD := same_upd (o := .lst ([] : List V)) nD
  refine lc_range (lo := 0) (n := hb ns + 1) (fun i H' => Same H1 H' ∧ ∃ xs : List Addr, H' D = some (.lst (xs.map V.ref)) ∧ WaysX T.C_Way (Msk D H') xs ((List.range i).map some) (bits.getD 0) ns (fun _ => ⟨none, 0⟩) ∧ ∀ x ∈ xs, H1 x = none ∧ x ≠ D ∧ ∃ o, H' x = some o) ⟨sD, [], upd_same, ⟨rfl, List.nodup_nil, fun i x k h => by cases h⟩, fun x h => nomatch h⟩ ?_ ?_
  · rintro i H' hi ⟨sA, xs, hD, hW, hxs⟩
    refine ⟨rfl, ?_⟩
    unfold tYes
    dsimp only
    rw [if_pos (show true = true from rfl)]
    refine ⟨_, rfl, _, rfl, ?_⟩
    intro x dx nx ndx ne
    have Dx : D ≠ x := fun z => by rw [z, nx] at hD; cases hD
    have Ddx : D ≠ dx := fun z => by rw [z, ndx] at hD; cases hD
    have nx1 : H1 x = none := by
      cases h : H1 x with
      | none => rfl
      | some o => rw [sA _ _ h] at nx; cases nx
    have seq' : SqL K (upd (upd H' dx (.own x)) x (.ins T.C_Way dx [])) a (ns.map V.int) := (new_old sA nx ndx).seq hA1
    refine ⟨x, dx, a, ns, some i, 0, bits.getD 0, by rw [Int.zero_add]; rfl, upd_same, seq', hl, (fun w e => by cases e; omega), (fun e => by cases e), fun H2 bx hWx hWm => ⟨rfl, ?_⟩⟩
    have s2 := new_same' nx ndx bx
    have hD2 := s2 _ _ hD
    have hWD := hWm D Dx (by rw [upd_ne Dx, upd_ne Ddx, hD]; exact fun z => nomatch z)
    have hlenx : xs.length = i := by rw [hW.len, List.length_map, List.length_range]
    refine ⟨xs.map V.ref, hD2, by rw [List.length_map, hlenx, sizeLine_eq]; omega, fun c o h => ?_, xs ++ [x], by rw [upd_same, List.map_append]; rfl, ?_, fun y hy => ?_⟩
    · rw [upd_ne (ne_of_none h nD)]
      exact s2 _ _ (sA _ _ h)
    · rw [List.range_succ, List.map_append]
      have snc := hW.snoc (H' := Msk D H2) (x := x) (k := some i) (msk_mono s2) (fun z => by
        obtain ⟨_, _, o, ho⟩ := hxs x z
        rw [nx] at ho
        cases ho) hWD
      exact snc.same msk_upd
    · rcases List.mem_append.mp hy with z | z
      · obtain ⟨a1, a2, o, ho⟩ := hxs y z
        exact ⟨a1, a2, o, by rw [upd_ne a2]; exact s2 _ _ ho⟩
      · rw [List.mem_singleton.mp z]
        obtain ⟨_, _, _, _, hx2, _⟩ := hWx
        exact ⟨nx1, Dx.symm, _, by rw [upd_ne Dx.symm]; exact hx2⟩
  · rintro H2 ⟨sA, xs, hD, hW, hxs⟩
    have hW2 := hW.same msk_same
    have s02 := s1.trans sA
    have old : ∀ x ∈ xs, H x = none := fun x hx => by
      cases h : H x with
      | none => rfl
      | some o =>
        have := s1 _ _ h
        rw [(hxs x hx).1] at this
        cases this
    have nDH : H D = none := by
      cases h : H D with
      | none => rfl
      | some o => rw [s1 _ _ h] at nD; cases nD
    refine ⟨_, rfl, rfl, _, rfl, ?_⟩
    cases bits with
    | none =>
      refine iteF ?_
      refine ⟨_, rfl, q H2 D xs s02 nDH old hD ?_⟩
      unfold kinds
      rw [List.append_nil]
      exact hW2
    | some pb =>
      refine iteT ?_
      refine ⟨_, rfl, _, rfl, _, rfl, ?_⟩
      intro x dx nx ndx ne
      have seq' : SqL K (upd (upd H2 dx (.own x)) x (.ins T.C_Way dx [])) a (ns.map V.int) := (new_old sA nx ndx).seq hA1
      refine ⟨x, dx, a, ns, none, (pb : Int), pb, rfl, upd_same, seq', hl, (fun w e => by cases e), (fun _ => ⟨rfl, hbt⟩), fun H3 bx hWx hWm => ⟨rfl, ?_⟩⟩
      have s3 := new_same' nx ndx bx
      refine ⟨(by show 1 ≤ sizeLine; decide), fun z nz => ?_⟩
      obtain ⟨H4, e4, s4, hz⟩ := fresh (.lst [V.ref x]) nz
      rw [e4]
      have hlenx : xs.length = hb ns + 1 := by rw [hW.len, List.length_map, List.length_range]
      refine ⟨D, z, _, _, rfl, rfl, s4 _ _ (s3 _ _ hD), hz, by rw [List.length_map, hlenx, sizeLine_eq]; show hb ns + 1 + 1 ≤ _; omega, fun L nL => ?_⟩
      obtain ⟨H5, e5, s5, hL⟩ := fresh (.lst (xs.map V.ref ++ [V.ref x])) nL
      rw [e5]
      have s25 := s3.trans (s4.trans s5)
      have sAll := s02.trans s25
      refine q H5 L (xs ++ [x]) sAll ?_ ?_ (by rw [hL, List.map_append]; rfl) ?_
      · cases h : H L with
        | none => rfl
        | some o => rw [(s02.trans (s3.trans s4)) _ _ h] at nL; cases nL
      · intro y hy
        rcases List.mem_append.mp hy with zz | zz
        · exact old y zz
        · rw [List.mem_singleton.mp zz]
          cases h : H x with
          | none => rfl
          | some o => rw [s02 _ _ h] at nx; cases nx
      · have nxs : x ∉ xs := fun zz => by
          obtain ⟨_, _, o, ho⟩ := hxs x zz
          rw [nx] at ho
          cases ho
        exact hW2.snoc s25 nxs (hWx.same (s4.trans s5))
def sp_gone_along (C : Addr) (K : PySem.W.Frag) : Sp := fun vs H Q _ => ∃ (a : Addr) (ns : List Int) (few : Nat) (cost : Int) (bits : Option Nat), vs = [.ref a, .int few, .int cost, optV bits] ∧ SqL K H a (ns.map V.int) ∧ ns.length ≤ 1000 ∧ hb ns ≤ 90 ∧ bits.getD 0 ≤ 1000 ∧ 1 ≤ few ∧ ∀ (H' : Hp) (t tp lp : Addr), Same H H' → H' t = some (.tup [.ref tp, .ref lp]) → H' tp = some (.lst ((gone (bits.getD 0) few cost ns (kinds ns bits) ns.length).1.map totV)) → LasL H' lp (gone (bits.getD 0) few cost ns (kinds ns bits) ns.length).2 → Q (.ref t) H'
theorem G_gone_along (T : Top K mg) : FnOk P w K mg base CX0 5 T.f_gone_along T.fd_gone_along ["folds", "few", "cost", "bits"] (sp_gone_along T.C_Way K) := by
  refine T.F_gone_along.ok sc_gone_along (fun vs H Q E h => by obtain ⟨a, ns, few, cost, bits, rfl, _⟩ := h; rfl) (fun cdv A outer s H vs Q E hr h => ?_)
  obtain ⟨a, ns, few, cost, bits, rfl, hA, hl, hh, hbt, hf, q⟩ := h
  refine ⟨_, PSs.nox (pss_cons (ps_par3 (by rfl) sc_gone_along.nd (i := 5) (j := 6) (l := 7) rfl rfl rfl (by decide) (by decide) (by decide) rfl rfl rfl (pa_cons (pe_lst (pa_cons pe_int pa_nil)) (pa_cons (pe_lst (pa_cons pe_non pa_nil)) (pa_cons (pe_call (G_ways_of T) (hr.mono (by decide)) (by rfl) T.g_ways_of T.F_ways_of.kp T.b_ways_of .nil pass0 (pa_cons (pv 0) (pa_cons (pv 3) pa_nil))) pa_nil))) (by rfl))
  (pss_cons (ps_for PassesOwn.never rfl (pi_range2 (by rfl) T.n_range (pa_cons pe_int (pa_cons (pe_op op_add (pe_callB (k_len K rfl) (by rfl) T.n_len (by decide +kernel) (pa_cons (pv 0) pa_nil)) pe_int) pa_nil))) (pg_name (i := 4) sc_gone_along.nd rfl (by first | exact Or.inl rfl | exact Or.inr rfl))
    (pss_cons (ps_set (i := 8) sc_gone_along.nd rfl (by first | exact Or.inl rfl | exact Or.inr rfl) pe_non)
  (pss_cons (ps_for PassesOwn.never rfl (k_piL K rfl (pv 7)) (pg_name (i := 9) sc_gone_along.nd rfl (by first | exact Or.inl rfl | exact Or.inr rfl))
    (pss_cons (ps_expr (pe_meth (pv 9) T.cl_Way T.me_Way_passed (G_Way_passed T) (hr.mono (by decide)) T.b_Way_passed .nil pass0 (pa_cons (pv 4) pa_nil)))
  (pss_cons (ps_if (PW.pt (pw_and (pt_cmpR op_ge (pv 4) (pv 1) (nomark _)) (pw_and1 (pt_cmpR op_notN (pe_ix (k_ixL K rfl) (pv 5) (pe_op op_sub (pv 4) (pv 1)) (fun _ _ => rfl)) pe_non (nomark _)))))
    (pss_one (ps_expr (pe_meth (pv 9) T.cl_Way T.me_Way_begin (G_Way_begin T) (hr.mono (by decide)) T.b_Way_begin .nil pass0 (pa_cons (pe_op op_sub (pv 4) (pv 1)) (pa_cons (pe_ix (k_ixL K rfl) (pv 5) (pe_op op_sub (pv 4) (pv 1)) (fun _ _ => rfl)) pa_nil)))))
    pss_nil)
  (pss_cons (ps_set (i := 10) sc_gone_along.nd rfl (by first | exact Or.inl rfl | exact Or.inr rfl) (pe_meth (pv 9) T.cl_Way T.me_Way_least (G_Way_least T) (hr.mono (by decide)) T.b_Way_least .nil pass0 (pa_cons (pv 4) pa_nil)))
  (pss_one (ps_if (PW.pt (pw_and (pt_cmpR op_notN (pv 10) pe_non (nomark _)) (pw_and1 (PW.pt (pw_or (pt_cmpR op_isN (pv 8) pe_non (nomark _)) (pw_or1 (pt_cmpR op_lt (pe_op op_add (pe_ix (k_ixT K rfl) (pv 10) pe_int (fun _ _ => rfl)) (pv 2)) (pe_ix (k_ixT K rfl) (pv 8) pe_int (fun _ _ => rfl)) (nomark _))))))))
    (pss_one (ps_set (i := 8) sc_gone_along.nd rfl (by first | exact Or.inl rfl | exact Or.inr rfl) (pe_tup (pa_cons (pe_op op_add (pe_ix (k_ixT K rfl) (pv 10) pe_int (fun _ _ => rfl)) (pv 2)) (pa_cons (pe_ix (k_ixT K rfl) (pv 10) pe_int (fun _ _ => rfl)) (pa_cons (pe_fld (pv 9) rfl) pa_nil))))))
    pss_nil))))))
  (pss_cons (ps_expr (pe_bm PySem.F.plainAttrs_list PySem.F.slot_list_append PySem.F.type_list_append mt_append (pv 5) (pa_cons (pe_ifExp (pt_cmpR op_isN (pv 8) pe_non (nomark _)) pe_non (pe_ix (k_ixT K rfl) (pv 8) pe_int (fun _ _ => rfl))) pa_nil)))
  (pss_one (ps_expr (pe_bm PySem.F.plainAttrs_list PySem.F.slot_list_append PySem.F.type_list_append mt_append (pv 6) (pa_cons (pv 8) pa_nil))))))))
  (pss_one (ps_ret (pe_tup (pa_cons (pv 5) (pa_cons (pv 6) pa_nil))))))), ?_⟩
  have hlen : (ns.map V.int).length = ns.length := List.length_map ..
  refine ⟨(by show 1 ≤ sizeLine; decide), fun tp ntp => ?_⟩
  obtain ⟨H1, e1, s1, htp⟩ := fresh (.lst [V.int 0]) ntp
  rw [e1]
  refine ⟨(by show 1 ≤ sizeLine; decide), fun lp nlp => ?_⟩
  obtain ⟨H2, e2, s2, hlp⟩ := fresh (.lst [V.non]) nlp
  rw [e2]
  have s02 := s1.trans s2
  refine ⟨_, rfl, _, rfl, a, ns, bits, rfl, s02.seq hA, hl, hh, hbt, fun H3 L xs s3 nL nxs hL hW => ?_⟩
  have s03 := s02.trans s3
  have htp2 := s2 _ _ htp
  have tplp : tp ≠ lp := fun z => by rw [← z, htp] at nlp; cases nlp
  have Ltp : L ≠ tp := fun z => by rw [z, htp2] at nL; cases nL
  have Llp : L ≠ lp := fun z => by rw [z, hlp] at nL; cases nL
  have tpx : tp ∉ xs := fun z => by have := nxs _ z; rw [htp2] at this; cases this
  have lpx : lp ∉ xs := fun z => by have := nxs _ z; rw [hlp] at this; cases this
  have hA3 := s03.seq hA
  have hklen : (kinds ns bits).length = xs.length := hW.len.symm
  obtain ⟨wk, hwk⟩ : ∃ wk, kinds ns bits = wk := ⟨_, rfl⟩
  rw [hwk] at hW hklen q
  obtain ⟨pb, hpb⟩ : ∃ pb, bits.getD 0 = pb := ⟨_, rfl⟩
  rw [hpb] at hW q
  have Lx : L ∉ xs := fun z => by
    obtain ⟨i, hi⟩ := List.getElem?_of_mem z
    obtain ⟨k, hk⟩ : ∃ k, wk[i]? = some k := ⟨wk[i]'(by rw [hklen]; exact (List.getElem?_eq_some_iff.mp hi).1), List.getElem?_eq_getElem _⟩
    obtain ⟨dx, fs, h⟩ := (hW.at_ i L k hi hk).ins
    rw [hL] at h
    cases h
  refine ⟨_, _, _, rfl, ?_⟩
  refine ⟨_, rfl, a, _, rfl, .inl hA3, _, _, rfl, rfl, ?_⟩
  have e3 : (((ns.length + 1 : Nat) : Int) - 1).toNat = ns.length := by omega
  refine ⟨1, ((ns.length + 1 : Nat) : Int), by rw [hlen]; rfl, ⟨by decide, by decide, by omega, by omega⟩, ?_⟩
  rw [e3]
  -- a folds' list is kept
  have seqk : ∀ {HA : Hp}, (∀ b o, b ∉ xs → b ≠ tp → b ≠ lp → H3 b = some o → HA b = some o) → SqL K HA a (ns.map V.int) := fun {HA} hk => by
    have ok : ∀ o, H a = some o → HA a = some o := fun o h => hk _ _ (fun z => by have := nxs _ z; rw [s02 _ _ h] at this; cases this) (fun z => by rw [z, ntp] at h; cases h) (fun z => by have := s1 _ _ h; rw [z, nlp] at this; cases this) (s03 _ _ h)
    rcases hA with hA | hA
    · rcases hA with hA | ⟨o, hA⟩
      · exact .inl (.inl (ok _ hA))
      · exact .inl (.inr ⟨o, ok _ hA⟩)
    · exact .inr hA
  refine for_range (lo := 1) (n := ns.length) (fun i σ HA => ∃ v4 v8 v9 v10 : Option V, σ = [some (.ref a), some (.int few), some (.int cost), some (optV bits), v4, some (.ref tp), some (.ref lp), some (.ref L), v8, v9, v10] ∧ (∀ b o, b ∉ xs → b ≠ tp → b ≠ lp → H3 b = some o → HA b = some o) ∧
      HA tp = some (.lst ((gone pb few cost ns wk i).1.map totV)) ∧ LasL HA lp (gone pb few cost ns wk i).2 ∧ WaysX T.C_Way HA xs wk pb ns (fun k => stW pb few k ns (gone pb few cost ns wk i).1 i))
    ⟨none, none, none, none, rfl, fun b o _ _ _ h => h, s3 _ _ htp2, ⟨[V.non], s3 _ _ hlp, rfl, fun i v b h1 h2 => ?_⟩, hW⟩ ?_ ?_
  · cases i with
    | zero => cases h1; cases h2; rfl
    | succ i => simp at h1
  · rintro i σ HA hi ⟨v4, v8, v9, v10, rfl, hk, hT, hLs, hWA⟩
    rw [show (1 : Int) + (i : Int) = ((i + 1 : Nat) : Int) by omega]
    have hTl : (gone pb few cost ns wk i).1.length = i + 1 := gone_len i
    obtain ⟨TT, hTT⟩ : ∃ TT, (gone pb few cost ns wk i).1 = TT := ⟨_, rfl⟩
    rw [hTT] at hT hWA hTl
    have hLA := hk _ _ Lx Ltp Llp hL
    refine ⟨_, rfl, L, rfl, ⟨_, .inl (.inl hLA)⟩, ?_⟩
    refine for_list (K := K) (a := L) (xs := xs.map V.ref) (fun j σ HB => ∃ (bv : V) (v9 v10 : Option V), σ = [some (.ref a), some (.int few), some (.int cost), some (optV bits), some (.int ((i + 1 : Nat) : Int)), some (.ref tp), some (.ref lp), some (.ref L), some bv, v9, v10] ∧ (∀ b o, b ∉ xs → HA b = some o → HB b = some o) ∧
        BstV HB bv (bestL pb few cost ns TT (i + 1) (wk.take j) none) ∧ ∀ (l : Nat) (x : Addr) (k : Kd), xs[l]? = some x → wk[l]? = some k → WayAt T.C_Way HB x k pb ns (if l < j then stW pb few k ns TT (i + 1) else stW pb few k ns TT i))
      ⟨.non, v9, v10, rfl, fun b o _ h => h, rfl, fun l x k h1 h2 => by rw [if_neg (Nat.not_lt_zero l)]; exact hWA.at_ l x k h1 h2⟩ (fun j σ HB _ ⟨_, _, _, _, h, _⟩ => .inl (.inl (h _ _ Lx hLA))) ?_ ?_
    · rintro j y σ HB hy ⟨bv, w9, w10, rfl, hkB, hbv, hWB⟩
      rw [List.getElem?_map] at hy
      obtain ⟨x, hx, rfl⟩ := Option.map_eq_some_iff.mp hy
      obtain ⟨k, hkd⟩ : ∃ k, wk[j]? = some k := ⟨wk[j]'(by rw [hklen]; exact (List.getElem?_eq_some_iff.mp hx).1), List.getElem?_eq_getElem _⟩
      have hW1 := hWB j x k hx hkd
      rw [if_neg (Nat.lt_irrefl j)] at hW1
      have hik : shutAt pb k ns (i + 1 - 1) = shutAt pb k ns i := rfl
      obtain ⟨dx, S, T', bw, hins, hr⟩ := id hW1
      refine ⟨_, rfl, x, dx, _, rfl, hins, rfl, _, rfl, x, k, pb, ns, _, i + 1, rfl, hW1, by omega, by omega, hl, fun H4 b4 hW4 => ?_⟩
      clear hins hr
      have xtp : tp ≠ x := fun z => tpx (by rw [z]; exact List.mem_of_getElem? hx)
      have hT4 := b4 _ _ xtp (hkB _ _ tpx hT)
      -- begin
      dsimp only
      refine ifs_join (fun σ' H' => σ' = [some (.ref a), some (.int few), some (.int cost), some (optV bits), some (.int ((i + 1 : Nat) : Int)), some (.ref tp), some (.ref lp), some (.ref L), some bv, some (.ref x), w10] ∧ Butx x H4 H' ∧ WayAt T.C_Way H' x k pb ns (stW pb few k ns TT (i + 1))) (fun nx hnx => ?_) ?_
      · have est : stW pb few k ns TT (i + 1) = begO pb few k ns TT (i + 1) (passW (shutAt pb k ns i) (i + 1) (stW pb few k ns TT i)) := rfl
        rw [est] at hnx
        rw [hik] at hW4
        generalize passW (shutAt pb k ns i) (i + 1) (stW pb few k ns TT i) = s1 at *
        unfold begO at hnx
        refine ⟨_, rfl, _, rfl, _, _, rfl, rfl, _, rfl, ?_⟩
        by_cases c : few ≤ i + 1
        rotate_left
        · rw [show decide ((few : Int) ≤ ((i + 1 : Nat) : Int)) = false from decide_eq_false (by omega)]
          rw [if_neg c] at hnx
          exact iteF (hnx _ _ ⟨rfl, fun b o n h => h, hW4⟩)
        rw [show decide ((few : Int) ≤ ((i + 1 : Nat) : Int)) = true from decide_eq_true (by omega)]
        rw [if_pos c] at hnx
        refine iteT ?_
        have eidx : ((i + 1 : Nat) : Int) - (few : Int) = ((i + 1 - few : Nat) : Int) := by omega
        have hlt : i + 1 - few < TT.length := by omega
        obtain ⟨o, ho⟩ : ∃ o, TT[i + 1 - few]? = some o := ⟨_, List.getElem?_eq_getElem hlt⟩
        have hat : atI (TT.map totV) (((i + 1 : Nat) : Int) - (few : Int)) = some (totV o) := by rw [eidx]; exact atI_nat (by rw [List.getElem?_map, ho]; rfl)
        refine ⟨_, rfl, _, rfl, _, rfl, _, _, rfl, rfl, tp, _, _, _, rfl, rfl, .inl (.inl hT4), hat, rfl, _, rfl, ?_⟩
        rw [ho] at hnx
        cases o with
        | none => exact iteF (hnx _ _ ⟨rfl, fun b o n h => h, hW4⟩)
        | some t =>
          refine iteT ?_
          obtain ⟨dx, S, T', bw, hins, hr⟩ := id hW4
          refine ⟨_, rfl, x, dx, _, rfl, hins, rfl, _, rfl, _, rfl, _, _, rfl, rfl, _, rfl, _, rfl, _, rfl, _, _, rfl, rfl, tp, _, _, _, rfl, rfl, .inl (.inl hT4), hat, ?_⟩
          exact ⟨x, k, pb, ns, s1, i + 1 - few, t, by rw [← eidx]; rfl, hW4, by omega, hl, fun H5 b5 hW5 => hnx _ _ ⟨rfl, b5, hW5⟩⟩
      rintro _ H5 ⟨rfl, b5, hW5⟩
      -- least
      obtain ⟨dx, S, T', bw, hins, hr⟩ := id hW5
      refine ⟨_, rfl, x, dx, _, rfl, hins, rfl, _, rfl, x, k, pb, ns, _, i + 1, rfl, hW5, by omega, hl, fun H6 hv s6 hhv => ?_⟩
      have hins6 := s6 _ _ hins
      clear hins hr
      have hkd' : wk.take (j + 1) = wk.take j ++ [k] := by rw [List.take_add_one, hkd]; rfl
      rw [hkd', bestL_snoc]
      have bB6 : ∀ b o, b ≠ x → HB b = some o → H6 b = some o := fun b o n h => s6 _ _ (b5 _ _ n (b4 _ _ n h))
      have tupk : ∀ a ys, HB a = some (.tup ys) → H6 a = some (.tup ys) := fun b ys h => bB6 _ _ (fun z => by
        obtain ⟨dx, fs, h2⟩ := hW1.ins
        rw [z, h2] at h
        cases h) h
      have hbv6 := hbv.keep tupk
      have fin : ∀ H' bv', Same H6 H' → BstV H' bv' (bestU cost k (hereW pb k ns (i + 1) (stW pb few k ns TT (i + 1))) (bestL pb few cost ns TT (i + 1) (wk.take j) none)) → ∃ (bv : V) (v9 v10 : Option V), ([some (.ref a), some (.int few), some (.int cost), some (optV bits), some (.int ((i + 1 : Nat) : Int)), some (.ref tp), some (.ref lp), some (.ref L), some bv', some (.ref x), some hv] : L2.St) = [some (.ref a), some (.int few), some (.int cost), some (optV bits), some (.int ((i + 1 : Nat) : Int)), some (.ref tp), some (.ref lp), some (.ref L), some bv, v9, v10] ∧ (∀ b o, b ∉ xs → HA b = some o → H' b = some o) ∧
          BstV H' bv (bestU cost k (hereW pb k ns (i + 1) (stW pb few k ns TT (i + 1))) (bestL pb few cost ns TT (i + 1) (wk.take j) none)) ∧ ∀ (l : Nat) (x : Addr) (k : Kd), xs[l]? = some x → wk[l]? = some k → WayAt T.C_Way H' x k pb ns (if l < j + 1 then stW pb few k ns TT (i + 1) else stW pb few k ns TT i) := fun H' bv' s' hb' => by
        refine ⟨_, _, _, rfl, fun b o nb h => s' _ _ (bB6 _ _ (fun z => nb (by rw [z]; exact List.mem_of_getElem? hx)) (hkB _ _ nb h)), hb', fun l y k' h1 h2 => ?_⟩
        by_cases c : l = j
        · subst c
          rw [hx] at h1
          rw [hkd] at h2
          cases h1
          cases h2
          rw [if_pos (Nat.lt_succ_self _)]
          exact (hW5.same s6).same s'
        · have hyx : y ≠ x := fun z => c (by
            have e1 := List.getElem?_eq_some_iff.mp h1
            have e2 := List.getElem?_eq_some_iff.mp hx
            obtain ⟨p1, q1⟩ := e1
            obtain ⟨p2, q2⟩ := e2
            exact (List.getElem_inj hW.nd).mp (by rw [q1, q2, z]))
          have hold := hWB l y k' h1 h2
          have h4 := hold.but hyx hW1.ins b4
          have h5 := h4.but hyx hW4.ins b5
          have h6 := (h5.same s6).same s'
          by_cases d : l < j
          · rw [if_pos d] at h6
            rw [if_pos (by omega)]
            exact h6
          · rw [if_neg d] at h6
            rw [if_neg (by omega)]
            exact h6
      unfold bestU at fin ⊢
      generalize hereW pb k ns (i + 1) (stW pb few k ns TT (i + 1)) = hw at *
      generalize bestL pb few cost ns TT (i + 1) (wk.take j) none = bl at *
      refine ⟨_, rfl, rfl, _, rfl, ?_⟩
      cases hw with
      | none =>
        obtain rfl : hv = .non := hhv
        refine iteF ?_
        exact fin _ _ (Same.refl _) hbv6
      | some y =>
        obtain ⟨m, b0⟩ := y
        obtain ⟨th, rfl, hth⟩ := hhv
        refine iteT ?_
        refine ⟨_, rfl, rfl, _, rfl, ?_⟩
        dsimp only at fin ⊢
        cases bl with
        | none =>
          obtain rfl : bv = .non := hbv6
          have fin := fun H' bv' s' hb' => fin H' bv' s' (by rw [show lessB (m + cost) none = true from rfl, if_pos rfl]; exact hb')
          refine iteT ?_
          refine ⟨_, rfl, th, _, _, _, rfl, rfl, .inl (.inl hth), atI_nat (j := 0) rfl, _, rfl, _, _, rfl, rfl, _, rfl, th, _, _, _, rfl, rfl, .inl (.inl hth), atI_nat (j := 1) rfl, _, rfl, x, T.C_Way, dx, _, _, rfl, hins6, T.cl_Way, T.na_Way_kind, rfl, (by show 3 ≤ sizeLine; decide), fun u nu => ?_⟩
          exact fin _ _ (same_upd nu) ⟨u, rfl, upd_same⟩
        | some z =>
          obtain ⟨v, b1, k1⟩ := z
          obtain ⟨tb, rfl, htb⟩ := hbv6
          refine iteF ?_
          refine ⟨_, rfl, th, _, _, _, rfl, rfl, .inl (.inl hth), atI_nat (j := 0) rfl, _, rfl, _, _, rfl, rfl, _, rfl, tb, _, _, _, rfl, rfl, .inl (.inl htb), atI_nat (j := 0) rfl, _, _, rfl, rfl, _, rfl, ?_⟩
          by_cases c : m + cost < v
          · rw [show decide (m + cost < v) = true from decide_eq_true c]
            refine iteT ?_
            have fin := fun H' bv' s' hb' => fin H' bv' s' (by rw [show lessB (m + cost) (some (v, b1, k1)) = true from decide_eq_true c, if_pos rfl]; exact hb')
            refine ⟨_, rfl, th, _, _, _, rfl, rfl, .inl (.inl hth), atI_nat (j := 0) rfl, _, rfl, _, _, rfl, rfl, _, rfl, th, _, _, _, rfl, rfl, .inl (.inl hth), atI_nat (j := 1) rfl, _, rfl, x, T.C_Way, dx, _, _, rfl, hins6, T.cl_Way, T.na_Way_kind, rfl, (by show 3 ≤ sizeLine; decide), fun u nu => ?_⟩
            exact fin _ _ (same_upd nu) ⟨u, rfl, upd_same⟩
          · rw [show decide (m + cost < v) = false from decide_eq_false c]
            refine iteF ?_
            exact fin _ _ (Same.refl _) (by rw [show lessB (m + cost) (some (v, b1, k1)) = false from decide_eq_false c, if_neg (by decide)]; exact ⟨tb, rfl, htb⟩)
    · rintro σ HB ⟨bv, w9, w10, rfl, hkB, hbv, hWB⟩
      rw [List.length_map, ← hklen, List.take_length] at hbv
      have hb' : bestL pb few cost ns TT (i + 1) wk none = bestA pb few cost ns wk TT (i + 1) := rfl
      rw [hb'] at hbv
      have hWB' : ∀ (l : Nat) (x : Addr) (k : Kd), xs[l]? = some x → wk[l]? = some k → WayAt T.C_Way HB x k pb ns (stW pb few k ns TT (i + 1)) := fun l x k h1 h2 => by
        have h3 := hWB l x k h1 h2
        rw [if_pos (by rw [List.length_map]; exact (List.getElem?_eq_some_iff.mp h1).1)] at h3
        exact h3
      have hTB := hkB _ _ tpx hT
      obtain ⟨vs, hvs, hvl, hva⟩ := hLs
      have hvsB := hkB _ _ lpx hvs
      have tupk : ∀ a ys, HA a = some (.tup ys) → HB a = some (.tup ys) := fun b ys h => hkB _ _ (fun z => by
        obtain ⟨l, hlx⟩ := List.getElem?_of_mem z
        obtain ⟨k, hkd⟩ : ∃ k, wk[l]? = some k := ⟨wk[l]'(by rw [hklen]; exact (List.getElem?_eq_some_iff.mp hlx).1), List.getElem?_eq_getElem _⟩
        obtain ⟨dx, fs, h2⟩ := (hWA.at_ l _ k hlx hkd).ins
        rw [h2] at h
        cases h) h
      have hvl' : vs.length = i + 1 := by rw [hvl, gone_las, List.length_map, List.length_range]
      have hv0 : vs[0]? = some .non := by
        obtain ⟨v, hv⟩ : ∃ v, vs[0]? = some v := ⟨_, List.getElem?_eq_getElem (by omega)⟩
        have h1 := hva 0 v none hv (by rw [gone_las, List.getElem?_map, List.getElem?_range (by omega)]; rfl)
        rw [hv]
        exact congrArg some h1
      have hT0 : (TT.map totV)[0]? = some (.int 0) := by
        rw [← hTT, List.getElem?_map, gone_at (Nat.zero_le _)]
        rfl
      have hg1 : (gone pb few cost ns wk (i + 1)).1 = TT ++ [(bestA pb few cost ns wk TT (i + 1)).map fun q => q.1] := by
        show (gone pb few cost ns wk i).1 ++ _ = _
        rw [hTT]
      have hg2 : (gone pb few cost ns wk (i + 1)).2 = (gone pb few cost ns wk i).2 ++ [bestA pb few cost ns wk TT (i + 1)] := by
        show (gone pb few cost ns wk i).2 ++ _ = _
        rw [hTT]
      generalize bestA pb few cost ns wk TT (i + 1) = bb at *
      -- the two lists grow
      have fin : ∀ H5, H5 = upd HB tp (.lst (TT.map totV ++ [totV (bb.map fun q => q.1)])) → H5 lp = some (.lst vs) ∧ ∃ v4 v8 v9 v10 : Option V, ([some (.ref a), some (.int few), some (.int cost), some (optV bits), some (.int ((i + 1 : Nat) : Int)), some (.ref tp), some (.ref lp), some (.ref L), some bv, w9, w10] : L2.St) = [some (.ref a), some (.int few), some (.int cost), some (optV bits), v4, some (.ref tp), some (.ref lp), some (.ref L), v8, v9, v10] ∧ (∀ b o, b ∉ xs → b ≠ tp → b ≠ lp → H3 b = some o → (upd H5 lp (.lst (vs ++ [bv]))) b = some o) ∧
          (upd H5 lp (.lst (vs ++ [bv]))) tp = some (.lst ((gone pb few cost ns wk (i + 1)).1.map totV)) ∧ LasL (upd H5 lp (.lst (vs ++ [bv]))) lp (gone pb few cost ns wk (i + 1)).2 ∧ WaysX T.C_Way (upd H5 lp (.lst (vs ++ [bv]))) xs wk pb ns (fun k => stW pb few k ns (gone pb few cost ns wk (i + 1)).1 (i + 1)) := fun H5 e5 => by
        have b5 : Butx tp HB H5 := fun b o n h => by rw [e5, upd_ne n]; exact h
        have hlp5 := b5 _ _ tplp.symm hvsB
        have b6 : Butx lp H5 (upd H5 lp (.lst (vs ++ [bv]))) := fun b o n h => by rw [upd_ne n]; exact h
        have tup6 : ∀ a ys, HB a = some (.tup ys) → (upd H5 lp (.lst (vs ++ [bv]))) a = some (.tup ys) := fun b ys h => b6 _ _ (fun z => by rw [z, hvsB] at h; cases h) (b5 _ _ (fun z => by rw [z, hTB] at h; cases h) h)
        refine ⟨hlp5, _, _, _, _, rfl, fun b o n1 n2 n3 h => b6 _ _ n3 (b5 _ _ n2 (hkB _ _ n1 (hk _ _ n1 n2 n3 h))), ?_, ⟨vs ++ [bv], upd_same, ?_, fun l v b h1 h2 => ?_⟩, hW.len, hW.nd, fun l x k h1 h2 => ?_⟩
        · rw [upd_ne tplp, e5, upd_same, hg1, List.map_append]
          rfl
        · rw [hg2, List.length_append, List.length_append, hvl]
          rfl
        · rw [hg2] at h2
          by_cases c : l < vs.length
          · rw [List.getElem?_append_left c] at h1
            rw [List.getElem?_append_left (by rw [← hvl]; exact c)] at h2
            exact (hva l v b h1 h2).keep fun a ys h => tup6 _ _ (tupk _ _ h)
          · rw [List.getElem?_append_right (by omega)] at h1
            rw [List.getElem?_append_right (by rw [← hvl]; omega), ← hvl] at h2
            have e : l - vs.length = 0 := by
              have := (List.getElem?_eq_some_iff.mp h1).1
              rw [List.length_singleton] at this
              omega
            rw [e] at h1 h2
            cases h1
            cases h2
            exact hbv.keep tup6
        · have h3 := hWB' l x k h1 h2
          have h4 := h3.lst hTB (fun z => by
            have := congrArg List.length z
            unfold sumsL at this
            rw [List.length_map, List.length_map, List.length_map, List.length_range, hTl] at this
            omega) (fun z => by
            have h0 := hT0
            rw [z] at h0
            obtain ⟨q', _, e'⟩ := Option.map_eq_some_iff.mp (show ((ns.map (shutK pb k))[0]?).map V.bl = some (.int 0) by rw [← List.getElem?_map]; exact h0)
            cases e') b5
          have h5 := h4.lst hlp5 (fun z => by
            have h0 := hv0
            rw [z] at h0
            obtain ⟨q', _, e'⟩ := Option.map_eq_some_iff.mp (show ((sumsL pb k ns)[0]?).map V.int = some .non by rw [← List.getElem?_map]; exact h0)
            cases e') (fun z => by
            have h0 := hv0
            rw [z] at h0
            obtain ⟨q', _, e'⟩ := Option.map_eq_some_iff.mp (show ((ns.map (shutK pb k))[0]?).map V.bl = some .non by rw [← List.getElem?_map]; exact h0)
            cases e') b6
          show WayAt _ _ x k pb ns (stW pb few k ns (gone pb few cost ns wk (i + 1)).1 (i + 1))
          rw [hg1, stW_ext hf (by omega)]
          exact h5
      have hvb : vs.length < sizeLine := by rw [hvl', sizeLine_eq]; omega
      have hTb : (TT.map totV).length < sizeLine := by rw [List.length_map, hTl, sizeLine_eq]; omega
      refine ⟨_, rfl, .inl ⟨rfl, _, .inl (.inl hTB)⟩, _, rfl, rfl, _, rfl, ?_⟩
      cases bb with
      | none =>
        obtain rfl : bv = .non := hbv
        refine iteT ?_
        obtain ⟨hlp5, hfin⟩ := fin _ rfl
        exact ⟨tp, _, _, rfl, rfl, hTB, hTb, _, rfl, .inl ⟨rfl, _, .inl (.inl hlp5)⟩, _, rfl, lp, _, _, rfl, rfl, hlp5, hvb, hfin⟩
      | some y =>
        obtain ⟨m, b0, k0⟩ := y
        obtain ⟨tb, rfl, htb⟩ := hbv
        refine iteF ?_
        obtain ⟨hlp5, hfin⟩ := fin _ rfl
        exact ⟨_, rfl, tb, _, _, _, rfl, rfl, .inl (.inl htb), atI_nat (j := 0) rfl, tp, _, _, rfl, rfl, hTB, hTb, _, rfl, .inl ⟨rfl, _, .inl (.inl hlp5)⟩, _, rfl, lp, _, _, rfl, rfl, hlp5, hvb, hfin⟩
  · rintro σ HA ⟨v4, v8, v9, v10, rfl, hk, hT, hLs, hWA⟩
    refine ⟨_, rfl, _, rfl, (by show 2 ≤ sizeLine; decide), fun t nt => ?_⟩
    have st := same_upd (o := .tup [V.ref tp, .ref lp]) nt
    have sall : Same H HA := fun b o h => hk _ _ (fun z => by have := nxs _ z; rw [s02 _ _ h] at this; cases this) (fun z => by rw [z, ntp] at h; cases h) (fun z => by have := s1 _ _ h; rw [z, nlp] at this; cases this) (s03 _ _ h)
    obtain ⟨vs, hvs, hvl, hva⟩ := hLs
    exact q _ t tp lp (sall.trans st) upd_same (st _ _ hT) ⟨vs, st _ _ hvs, hvl, fun i v b h1 h2 => (hva i v b h1 h2).keep fun a ys h => st _ _ h⟩
end
end My

namespace My
open PySem PySem.Spec PyProof.Rows L2 Pre
/-! ### check_cutting, least_cuts -/
def highF (T : List (Option Int)) : Int := maxI (T.filterMap id)
def toldP (bits : Option Nat) (few : Nat) (cost : Int) (ns : List Int) : Option (Int × List (Nat × Kd) × List Int) :=
  (tot (bits.getD 0) few cost ns (kinds ns bits) ns.length).map fun v => (v, cutsU (las (bits.getD 0) few cost ns (kinds ns bits)) ns.length ns.length, prsF ((List.range (ns.length + 1)).map (tot (bits.getD 0) few cost ns (kinds ns bits))) (highF ((List.range (ns.length + 1)).map (tot (bits.getD 0) few cost ns (kinds ns bits)))))
def CutL (H : Hp) (cp : Addr) (l : List (Nat × Kd)) : Prop := ∃ cs : List V, H cp = some (.lst cs) ∧ cs.length = l.length ∧ ∀ (i : Nat) (c : V) (x : Nat × Kd), cs[i]? = some c → l[i]? = some x → ∃ t, c = .ref t ∧ H t = some (.tup [.int (x.1 : Int), kdV x.2])
def ToldV (H : Hp) (v : V) : Option (Int × List (Nat × Kd) × List Int) → Prop
  | none => v = .non
  | some (t, cs, ps) => ∃ a cp pp, v = .ref a ∧ H a = some (.tup [.int t, .ref cp, .ref pp]) ∧ CutL H cp cs ∧ H pp = some (.lst (ps.map V.int))
theorem CutL.same {H H' : Hp} {cp : Addr} {l : List (Nat × Kd)} (h : CutL H cp l) (s : Same H H') : CutL H' cp l := by
  obtain ⟨cs, h1, h2, h3⟩ := h
  refine ⟨cs, s _ _ h1, h2, fun i c x a b => ?_⟩
  obtain ⟨t, e, ht⟩ := h3 i c x a b
  exact ⟨t, e, s _ _ ht⟩
theorem ToldV.same {H H' : Hp} {v : V} {o : Option (Int × List (Nat × Kd) × List Int)} (h : ToldV H v o) (s : Same H H') : ToldV H' v o := by
  cases o with
  | none => exact h
  | some q =>
    obtain ⟨t, cs, ps⟩ := q
    obtain ⟨a, cp, pp, e, h1, h2, h3⟩ := h
    exact ⟨a, cp, pp, e, s _ _ h1, h2.same s, s _ _ h3⟩
/-- the prices are a new list -/
def ToldN (H H' : Hp) (v : V) : Prop := ∀ (a : Addr) (t : V) (cp pp : Addr), v = .ref a → H' a = some (.tup [t, .ref cp, .ref pp]) → H pp = none
theorem none_back {H H' : Hp} {a : Addr} (s : Same H H') (h : H' a = none) : H a = none := by
  cases e : H a with
  | none => rfl
  | some o => rw [s _ _ e] at h; cases h
theorem fm_int (T : List (Option Int)) : (T.map fun o => o.map V.int).filterMap id = (T.filterMap id).map V.int := by
  induction T with
  | nil => rfl
  | cons o r ih => cases o <;> simp_all
theorem max_uniq' {l : List Int} {m : Int} (h1 : m ∈ l) (h2 : ∀ y ∈ l, y ≤ m) : m = maxI l := by
  cases l with
  | nil => cases h1
  | cons x xs =>
    obtain ⟨h3, h4⟩ := fold_max xs x
    exact Int.le_antisymm (h4 _ h1) (h2 _ h3)
theorem cutsU_fuel {L : Nat → Bst} {n : Nat} (hL : ∀ p v b k, p ≤ n → L p = some (v, b, k) → b < p) : ∀ {f g p : Nat}, p ≤ f → p ≤ g → p ≤ n → cutsU L f p = cutsU L g p
  | 0, 0, p, _, _, _ => rfl
  | 0, g + 1, p, h, _, _ => by
    obtain rfl : p = 0 := by omega
    rfl
  | f + 1, 0, p, _, h, _ => by
    obtain rfl : p = 0 := by omega
    rfl
  | f + 1, g + 1, p, h1, h2, h3 => by
    show (if p = 0 then [] else match L p with
      | some (_, b, k) => cutsU L f b ++ [(p - b, k)]
      | none => []) = if p = 0 then [] else match L p with
      | some (_, b, k) => cutsU L g b ++ [(p - b, k)]
      | none => []
    by_cases c : p = 0
    · rw [if_pos c, if_pos c]
    · rw [if_neg c, if_neg c]
      cases e : L p with
      | none => rfl
      | some x =>
        obtain ⟨v, b, k⟩ := x
        have := hL p v b k h3 e
        dsimp only
        rw [cutsU_fuel hL (f := f) (g := g) (p := b) (by omega) (by omega) (by omega)]
theorem cutsU_step {L : Nat → Bst} {n p b : Nat} {v : Int} {k : Kd} (hL : ∀ p v b k, p ≤ n → L p = some (v, b, k) → b < p) (hp : p ≤ n) (h0 : 0 < p) (e : L p = some (v, b, k)) : cutsU L n p = cutsU L n b ++ [(p - b, k)] := by
  have hb := hL p v b k hp e
  obtain ⟨f, rfl⟩ : ∃ f, n = f + 1 := ⟨n - 1, by omega⟩
  rw [cutsU_fuel hL (f := f + 1) (g := f) (p := b) (by omega) (by omega) (by omega)]
  show (if p = 0 then [] else match L p with
      | some (_, b, k) => cutsU L f b ++ [(p - b, k)]
      | none => []) = _
  rw [if_neg (by omega), e]
local macro_rules | `(tactic| walk_at "go") => `(tactic| repeat (first | (with_reducible first | refine iteT ?_ | refine iteF ?_ | refine iteNtt ?_ | refine iteNff ?_ | refine iteET (by omega) ?_ | refine iteEF (by omega) ?_ | refine iteENT (by omega) ?_ | refine iteENF (by omega) ?_ | refine iteDT (by omega) ?_ | refine iteDF (by omega) ?_ | refine iteNT (by omega) ?_ | refine iteNF (by omega) ?_) | refine ⟨_, rfl, ?_⟩ | refine ⟨_, _, rfl, rfl, ?_⟩ | refine ⟨_, _, rfl, ?_⟩ | refine ⟨rfl, ?_⟩ | refine .inl ⟨_, rfl, ?_⟩ | refine .inr ⟨_, rfl, ?_⟩))
local macro_rules | `(tactic| walk_at "b") => `(tactic| try dsimp (config := { proj := false, iota := false, eta := false, zeta := false }) only)
section
variable {P : Program} {w : World} {K : PySem.W.Frag} {mg : Str → Option Value} {base : Heap}
def sp_check_cutting (K : PySem.W.Frag) : Sp := fun vs H Q _ => ∃ (a : Addr) (ns : List Int) (few : Nat) (cost : Int) (bits : Option Nat), vs = [.ref a, .int few, .int cost, optV bits] ∧ FoldsAt K H a ns ∧ 1 ≤ few ∧ 0 ≤ cost ∧ ∀ H', Same H H' → Q .non H'
theorem G_check_cutting (T : Top K mg) : FnOk P w K mg base CX0 4 T.f_check_cutting T.fd_check_cutting ["folds", "few", "cost", "bits"] (sp_check_cutting K) := by
  refine T.F_check_cutting.ok sc_check_cutting (fun vs H Q E h => by obtain ⟨a, ns, few, cost, bits, rfl, _⟩ := h; rfl) (fun cdv A outer s H vs Q E hr h => ?_)
  obtain ⟨a, ns, few, cost, bits, rfl, hA, hf, hc, q⟩ := h
  refine ⟨_, PSs.nox (pss_cons (ps_expr (pe_call (G_check_folds T) (hr.mono (by decide)) (by rfl) T.g_check_folds T.F_check_folds.kp T.b_check_folds .nil pass0 (pa_cons (pv 0) pa_nil)))
  (pss_cons (ps_expr (pe_call (G_check_number T) (hr.mono (by decide)) (by rfl) T.g_check_number T.F_check_number.kp T.b_check_number .nil pass0 (pa_cons (pv 1) (pa_cons pe_int (pa_cons pe_non pa_nil)))))
  (pss_cons (ps_expr (pe_call (G_check_number T) (hr.mono (by decide)) (by rfl) T.g_check_number T.F_check_number.kp T.b_check_number .nil pass0 (pa_cons (pv 2) (pa_cons pe_int (pa_cons pe_non pa_nil)))))
  (pss_one (ps_if (pt_cmpR op_notN (pv 3) pe_non (nomark _))
    (pss_one (ps_expr (pe_call (G_check_number T) (hr.mono (by decide)) (by rfl) T.g_check_number T.F_check_number.kp T.b_check_number .nil pass0 (pa_cons (pv 3) (pa_cons pe_int (pa_cons pe_non pa_nil))))))
    pss_nil))))), ?_⟩
  refine ⟨_, rfl, a, ns, rfl, hA.sq, ⟨_, hA.1, _, rfl⟩, hA.2.1.nn, small1000 hA.2.2, fun H1 s1 => ?_⟩
  refine ⟨_, rfl, few, 1, none, rfl, by omega, (fun j h => nomatch h), ?_⟩
  refine ⟨_, rfl, cost, 0, none, rfl, hc, (fun j h => nomatch h), ?_⟩
  refine ⟨_, rfl, rfl, _, rfl, ?_⟩
  cases bits with
  | none => exact iteF (q _ s1)
  | some b =>
    refine iteT ?_
    exact ⟨_, rfl, b, 0, none, rfl, Int.natCast_nonneg b, (fun j h => nomatch h), q _ s1⟩
def sp_least_cuts (C : Addr) (K : PySem.W.Frag) : Sp := fun vs H Q _ => ∃ (a : Addr) (ns : List Int) (few : Nat) (cost : Int) (bits : Option Nat), vs = [.ref a, .int few, .int cost, optV bits] ∧ FoldsAt K H a ns ∧ hb ns ≤ 40 ∧ bits.getD 0 ≤ 1000 ∧ 1 ≤ few ∧ 0 ≤ cost ∧ ∀ H' v, Same H H' → ToldV H' v (toldP bits few cost ns) → ToldN H H' v → Q v H'
theorem G_least_cuts (T : Top K mg) : FnOk P w K mg base CX0 6 T.f_least_cuts T.fd_least_cuts ["folds", "few", "cost", "bits"] (sp_least_cuts T.C_Way K) := by
  refine T.F_least_cuts.ok sc_least_cuts (fun vs H Q E h => by obtain ⟨a, ns, few, cost, bits, rfl, _⟩ := h; rfl) (fun cdv A outer s H vs Q E hr h => ?_)
  obtain ⟨a, ns, few, cost, bits, rfl, hA, hh, hbt, hf, hc, q⟩ := h
  refine ⟨_, PSs.nox (pss_cons (ps_expr (pe_call (G_check_cutting T) (hr.mono (by decide)) (by rfl) T.g_check_cutting T.F_check_cutting.kp T.b_check_cutting .nil pass0 (pa_cons (pv 0) (pa_cons (pv 1) (pa_cons (pv 2) (pa_cons (pv 3) pa_nil))))))
  (pss_cons (ps_asg (pe_call (G_gone_along T) (hr.mono (by decide)) (by rfl) T.g_gone_along T.F_gone_along.kp T.b_gone_along .nil pass0 (pa_cons (pv 0) (pa_cons (pv 1) (pa_cons (pv 2) (pa_cons (pv 3) pa_nil))))) (k_pgT K rfl (by rfl) (pgs_cons (pg_name (i := 5) sc_least_cuts.nd rfl (by first | exact Or.inl rfl | exact Or.inr rfl)) (pgs_cons (pg_name (i := 6) sc_least_cuts.nd rfl (by first | exact Or.inl rfl | exact Or.inr rfl)) pgs_nil))))
  (pss_cons (ps_if (pt_cmpR op_isN (pe_ix (k_ixL K rfl) (pv 5) (pe_un un_neg pe_int) (fun _ _ => rfl)) pe_non (nomark _))
    (pss_one (ps_ret pe_non))
    pss_nil)
  (pss_cons (ps_par (by rfl) sc_least_cuts.nd (i := 7) (j := 8) rfl rfl (by decide) rfl rfl (pa_cons (pe_lst pa_nil) (pa_cons (pe_callB (k_len K rfl) (by rfl) T.n_len (by decide +kernel) (pa_cons (pv 0) pa_nil)) pa_nil)) (by rfl))
  (pss_cons (ps_while PassesOwn.never (pt_cmpR op_gt (pv 8) pe_int (nomark _))
    (pss_cons (ps_expr (pe_bm PySem.F.plainAttrs_list PySem.F.slot_list_append PySem.F.type_list_append mt_append (pv 7) (pa_cons (pe_tup (pa_cons (pe_op op_sub (pv 8) (pe_ix (k_ixT K rfl) (pe_ix (k_ixL K rfl) (pv 6) (pv 8) (fun _ _ => rfl)) pe_int (fun _ _ => rfl))) (pa_cons (pe_ix (k_ixT K rfl) (pe_ix (k_ixL K rfl) (pv 6) (pv 8) (fun _ _ => rfl)) pe_int (fun _ _ => rfl)) pa_nil))) pa_nil)))
  (pss_one (ps_set (i := 8) sc_least_cuts.nd rfl (by first | exact Or.inl rfl | exact Or.inr rfl) (pe_ix (k_ixT K rfl) (pe_ix (k_ixL K rfl) (pv 6) (pv 8) (fun _ _ => rfl)) pe_int (fun _ _ => rfl))))))
  (pss_cons (ps_set (i := 4) sc_least_cuts.nd rfl (by first | exact Or.inl rfl | exact Or.inr rfl) (pe_callB (k_max K rfl rfl) (by rfl) T.n_max (by decide +kernel) (pa_cons (pe_lc (own := [("total", 9)]) (g := gName 9) (by rfl) sc_least_cuts.nd (k_piL K rfl (pv 5)) (blkOk_by (own := [("total", 9)]) (N := N_least_cuts) (sc := defScope s_least_cuts) (by decide +kernel)) (fun _ _ _ _ _ => (pg_name (i := 9) sc_least_cuts.nd rfl (by first | exact Or.inl rfl | exact Or.inr rfl))) (fun _ _ _ _ _ => (pts_one (pt_cmpR op_notN (pv 9) pe_non (nomark _)))) (fun _ _ _ _ _ => (pv 9))) pa_nil)))
  (pss_one (ps_ret (pe_tup (pa_cons (pe_ix (k_ixL K rfl) (pv 5) (pe_un un_neg pe_int) (fun _ _ => rfl)) (pa_cons (pe_revL (pv 7)) (pa_cons (pe_lc (own := [("total", 9)]) (g := gName 9) (tt := tYes) (by rfl) sc_least_cuts.nd (k_piL K rfl (pv 5)) (blkOk_by (own := [("total", 9)]) (N := N_least_cuts) (sc := defScope s_least_cuts) (by decide +kernel)) (fun _ _ _ _ _ => (pg_name (i := 9) sc_least_cuts.nd rfl (by first | exact Or.inl rfl | exact Or.inr rfl))) (fun _ _ _ _ _ => pts_nil) (fun _ _ _ _ _ => (pe_ifExp (pt_cmpR op_isN (pv 9) pe_non (nomark _)) (pv 4) (pv 9)))) pa_nil)))))))))))), ?_⟩
  refine ⟨_, rfl, _, rfl, _, rfl, _, rfl, a, ns, few, cost, bits, rfl, hA, hf, hc, fun H1 s1 => ?_⟩
  have hl := hA.2.2
  refine ⟨_, rfl, _, rfl, _, rfl, _, rfl, a, ns, few, cost, bits, rfl, s1.seq hA.sq, hl, by omega, hbt, hf, fun H2 t tp lp s2 ht htp hlp => ?_⟩
  refine ⟨t, _, rfl, .inl (.inl ht), rfl, _, _, rfl, _, _, rfl, rfl, ?_⟩
  have hF := hA.2.1
  have s02 := s1.trans s2
  have hlen : (ns.map V.int).length = ns.length := List.length_map ..
  obtain ⟨pb, hpb⟩ : ∃ pb, bits.getD 0 = pb := ⟨_, rfl⟩
  obtain ⟨Tf, hTf⟩ : ∃ Tf, tot (bits.getD 0) few cost ns (kinds ns bits) = Tf := ⟨_, rfl⟩
  obtain ⟨Lf, hLf⟩ : ∃ Lf, las (bits.getD 0) few cost ns (kinds ns bits) = Lf := ⟨_, rfl⟩
  have hok : ∀ p v b k, p ≤ ns.length → Lf p = some (v, b, k) → b < p ∧ ∃ t, Tf b = some t := fun p v b k hp e => by
    rw [← hLf] at e
    rw [← hTf]
    by_cases c : p = 0
    · rw [c] at e; cases e
    · obtain ⟨h1, ⟨t', h2, _⟩, _⟩ := (tot_ok (bits := bits) (few := few) (cost := cost) hf hF hh hp (by omega)).some_ v b k e
      exact ⟨by omega, t', h2⟩
  have hTL : ∀ p, 0 < p → Tf p = (Lf p).map fun x => x.1 := fun p hp => by rw [← hTf, ← hLf]; exact tot_las hp
  have hT0 : Tf 0 = some 0 := by rw [← hTf]; rfl
  unfold toldP at q
  rw [gone_tot] at htp
  rw [gone_las] at hlp
  rw [hTf] at htp q
  rw [hLf] at hlp q
  have htl : (((List.range (ns.length + 1)).map Tf).map totV).length = ns.length + 1 := by rw [List.length_map, List.length_map, List.length_range]
  have hlast : atI (((List.range (ns.length + 1)).map Tf).map totV) (-1) = some (totV (Tf ns.length)) := by
    rw [List.range_succ, List.map_append, List.map_append]
    exact atI_last _ _
  refine ⟨_, rfl, _, rfl, tp, _, _, _, rfl, rfl, .inl (.inl htp), hlast, rfl, _, rfl, ?_⟩
  cases hn : Tf ns.length with
  | none =>
    rw [hn] at q
    exact iteT (q _ _ s02 rfl fun _ _ _ _ e => by cases e)
  | some vn =>
  rw [hn] at q hlast
  refine iteF ?_
  refine ⟨(by show 0 ≤ sizeLine; decide), fun cp ncp => ?_⟩
  obtain ⟨H3, e3, s3, hcp⟩ := fresh (.lst ([] : List V)) ncp
  rw [e3]
  refine ⟨_, rfl, a, _, rfl, .inl ((s02.trans s3).seq hA.sq), _, _, rfl, ?_⟩
  rw [hlen]
  have hLb : ∀ p v b k, p ≤ ns.length → Lf p = some (v, b, k) → b < p := fun p v b k hp e => (hok p v b k hp e).1
  refine ⟨fun m σ HA => ∃ (pl : Nat) (A : List (Nat × Kd)), σ = [some (.ref a), some (.int few), some (.int cost), some (optV bits), none, some (.ref tp), some (.ref lp), some (.ref cp), some (.int (pl : Nat)), none] ∧ m = pl ∧ pl ≤ ns.length ∧ Same H2 HA ∧ CutL HA cp A ∧ A.length + pl ≤ ns.length ∧ cutsU Lf ns.length ns.length = cutsU Lf ns.length pl ++ A.reverse ∧ ∃ v, Tf pl = some v, ⟨ns.length, ns.length, [], rfl, rfl, Nat.le_refl _, s3, ⟨[], hcp, rfl, fun i c x h => by cases h⟩, by simp, by simp, vn, hn⟩, ?_⟩
  rintro pl σ HA ⟨_, A, rfl, rfl, hpl, sA, hcA, hAl, hcu, v, hv⟩
  refine ⟨_, rfl, _, _, rfl, rfl, _, rfl, ite2 (fun c => ?_) (fun c => ?_)⟩
  · have h0 : 0 < pl := by have : (0 : Int) < (pl : Int) := of_decide_eq_true c; omega
    have hTLp := hTL pl h0
    rw [hv] at hTLp
    cases hl' : Lf pl with
    | none => rw [hl'] at hTLp; cases hTLp
    | some x =>
      obtain ⟨v', b, k⟩ := x
      obtain ⟨hb, tt, htt⟩ := hok pl v' b k hpl hl'
      obtain ⟨vs, hvs, hvl, hva⟩ := id hlp
      obtain ⟨w0, hw0⟩ : ∃ w0, vs[pl]? = some w0 := ⟨_, List.getElem?_eq_getElem (by rw [hvl, List.length_map, List.length_range]; omega)⟩
      have hB := hva pl w0 (Lf pl) hw0 (by rw [List.getElem?_map, List.getElem?_range (by omega)]; rfl)
      rw [hl'] at hB
      obtain ⟨tb, rfl, htb⟩ := hB
      have hvsA := sA _ _ hvs
      have htbA := sA _ _ htb
      refine ⟨fun σ' H' => ∃ (A : List (Nat × Kd)), σ' = [some (.ref a), some (.int few), some (.int cost), some (optV bits), none, some (.ref tp), some (.ref lp), some (.ref cp), some (.int (b : Nat)), none] ∧ Same H2 H' ∧ CutL H' cp A ∧ A.length + b ≤ ns.length ∧ cutsU Lf ns.length ns.length = cutsU Lf ns.length b ++ A.reverse, fun σ' H' ⟨A', h1, h2, h3, h4, h5⟩ => ⟨b, hb, b, A', h1, rfl, by omega, h2, h3, h4, h5, tt, htt⟩, ?_⟩
      obtain ⟨cs, hcs, hcl, hca⟩ := id hcA
      refine ⟨_, rfl, .inl ⟨rfl, _, .inl (.inl hcs)⟩, _, rfl, _, rfl, _, rfl, lp, _, _, _, rfl, rfl, .inl (.inl hvsA), atI_nat hw0, tb, _, _, _, rfl, rfl, .inl (.inl htbA), atI_nat (j := 1) rfl, _, _, rfl, rfl, _, rfl, _, rfl, lp, _, _, _, rfl, rfl, .inl (.inl hvsA), atI_nat hw0, tb, _, _, _, rfl, rfl, .inl (.inl htbA), atI_nat (j := 2) rfl, (by show 2 ≤ sizeLine; decide), fun u nu => ?_⟩
      dsimp only
      rw [show (pl : Int) - (b : Int) = ((pl - b : Nat) : Int) by omega]
      obtain ⟨HB, eB, sB, hu⟩ := fresh (.tup [V.int ((pl - b : Nat) : Int), kdV k]) nu
      rw [eB]
      have hcsB := sB _ _ hcs
      have ncp2 : H2 cp = none := ncp
      refine ⟨cp, _, _, rfl, rfl, hcsB, by rw [hcl, sizeLine_eq]; omega, ?_⟩
      have s2' : Same H2 (upd HB cp (.lst (cs ++ [.ref u]))) := fun b' o h => by
        rw [upd_ne fun z => by rw [z, ncp2] at h; cases h]
        exact sB _ _ (sA _ _ h)
      have ucp : u ≠ cp := fun z => by rw [z, hcsB] at hu; cases hu
      refine ⟨_, rfl, _, rfl, lp, _, _, _, rfl, rfl, .inl (.inl (s2' _ _ hvs)), atI_nat hw0, tb, _, _, _, rfl, rfl, .inl (.inl (s2' _ _ htb)), atI_nat (j := 1) rfl, A ++ [(pl - b, k)], rfl, s2', ⟨cs ++ [.ref u], upd_same, by rw [List.length_append, List.length_append, hcl]; rfl, fun i c x h1 h2 => ?_⟩, by rw [List.length_append]; show A.length + 1 + b ≤ _; omega, ?_⟩
      · by_cases d : i < cs.length
        · rw [List.getElem?_append_left d] at h1
          rw [List.getElem?_append_left (by rw [← hcl]; exact d)] at h2
          obtain ⟨t', e', ht'⟩ := hca i c x h1 h2
          exact ⟨t', e', by rw [upd_ne fun z => by rw [z, hcs] at ht'; cases ht']; exact sB _ _ ht'⟩
        · rw [List.getElem?_append_right (by omega)] at h1
          rw [List.getElem?_append_right (by rw [← hcl]; omega), ← hcl] at h2
          have e : i - cs.length = 0 := by
            have := (List.getElem?_eq_some_iff.mp h1).1
            rw [List.length_singleton] at this
            omega
          rw [e] at h1 h2
          cases h1
          cases h2
          exact ⟨u, rfl, by rw [upd_ne ucp]; exact hu⟩
      · rw [hcu, cutsU_step hLb hpl h0 hl', List.reverse_append]
        simp
  · have h0 : pl = 0 := by
      have : ¬ (0 : Int) < (pl : Int) := fun z => c (decide_eq_true z)
      omega
    subst h0
    have hc0 : cutsU Lf ns.length 0 = [] := by cases ns.length <;> rfl
    rw [hc0, List.nil_append] at hcu
    have htA := sA _ _ htp
    -- the greatest total
    refine ⟨_, rfl, tp, rfl, ⟨_, .inl (.inl htA)⟩, fun D nD => ?_⟩
    refine lc_selL (K := K) (a := tp) (xs := ((List.range (ns.length + 1)).map Tf).map totV) (((List.range (ns.length + 1)).map Tf).map fun o => o.map V.int) nD (.inl (.inl htA)) (by rw [htl, List.length_map, List.length_map, List.length_range]) (by rw [htl, sizeLine_eq]; omega) (fun x => rfl) ?_ ?_
    · intro i x o H' hx ho s' Qt qt
      rw [List.getElem?_map] at hx ho
      obtain ⟨o', ho', rfl⟩ := Option.map_eq_some_iff.mp hx
      rw [ho'] at ho
      cases ho
      refine ⟨_, rfl, rfl, _, rfl, ?_⟩
      cases o' with
      | none => exact iteF (qt _ (Same.refl _))
      | some y => exact iteT ⟨_, rfl, qt _ (Same.refl _)⟩
    intro HB sB hD
    rw [fm_int] at hD
    have hne : ((List.range (ns.length + 1)).map Tf).filterMap id ≠ [] := fun z => by
      have : (0 : Int) ∈ ((List.range (ns.length + 1)).map Tf).filterMap id := List.mem_filterMap.mpr ⟨some 0, List.mem_map.mpr ⟨0, List.mem_range.mpr (by omega), hT0⟩, rfl⟩
      rw [z] at this
      cases this
    refine ⟨D, _, rfl, .inl (.inl hD), List.length_pos_iff.mpr hne, fun M hM hle => ?_⟩
    rw [max_uniq' hM hle]
    obtain ⟨hi, ehi⟩ : ∃ hi, maxI (((List.range (ns.length + 1)).map Tf).filterMap id) = hi := ⟨_, rfl⟩
    rw [ehi]
    have q' : ∀ H' v, Same H H' → ToldV H' v (some (vn, cutsU Lf ns.length ns.length, prsF ((List.range (ns.length + 1)).map Tf) hi)) → ToldN H H' v → Q v H' := fun H' v a b c => q H' v a (by unfold highF; rw [ehi]; exact b) c
    clear q
    have htB := sB _ _ htA
    have hcB := hcA.same sB
    obtain ⟨cs, hcs, hcl, hca⟩ := id hcB
    refine ⟨_, rfl, _, rfl, tp, _, _, _, rfl, rfl, .inl (.inl htB), hlast, _, rfl, cp, _, rfl, .inl (.inl hcs), fun rp nrp => ?_⟩
    obtain ⟨HC, eC, sC, hrp⟩ := fresh (.lst cs.reverse) nrp
    rw [eC]
    have htC := sC _ _ htB
    refine ⟨_, rfl, tp, rfl, ⟨_, .inl (.inl htC)⟩, fun D2 nD2 => ?_⟩
    refine lc_mapL (K := K) (a := tp) (xs := ((List.range (ns.length + 1)).map Tf).map totV) ((prsF ((List.range (ns.length + 1)).map Tf) hi).map V.int) nD2 (.inl (.inl htC)) (by unfold prsF; rw [htl, List.length_map, List.length_map, List.length_map, List.length_range]) (by rw [htl, sizeLine_eq]; omega) (fun x => rfl) ?_ ?_
    · intro i x y H' hx hy s' Qt qt
      unfold prsF at hy
      rw [List.getElem?_map] at hx
      obtain ⟨o', ho', rfl⟩ := Option.map_eq_some_iff.mp hx
      rw [List.getElem?_map, List.getElem?_map, ho'] at hy
      cases hy
      refine ⟨_, rfl, rfl, _, rfl, ?_⟩
      cases o' with
      | none => exact iteT ⟨_, rfl, qt _ (Same.refl _)⟩
      | some y => exact iteF ⟨_, rfl, qt _ (Same.refl _)⟩
    intro HD sD hD2
    refine ⟨(by show 3 ≤ sizeLine; decide), fun u nu => ?_⟩
    have su := same_upd (o := .tup [totV (some vn), .ref rp, .ref D2]) nu
    have sBD := (sC.trans sD).trans su
    refine q' _ _ ((s02.trans sA).trans (sB.trans sBD)) ⟨u, rp, D2, rfl, upd_same, ⟨cs.reverse, su _ _ (sD _ _ hrp), by rw [List.length_reverse, hcl, hcu, List.length_reverse], fun i c x h1 h2 => ?_⟩, su _ _ hD2⟩ fun a t cp' pp' e h => by
      cases e
      rw [upd_same] at h
      cases h
      exact none_back ((s02.trans sA).trans (sB.trans sC)) nD2
    rw [hcu] at h2
    have hi' : i < cs.length := by have := (List.getElem?_eq_some_iff.mp h1).1; rwa [List.length_reverse] at this
    rw [List.getElem?_reverse hi'] at h1
    rw [List.getElem?_reverse (by rw [← hcl]; exact hi'), ← hcl] at h2
    obtain ⟨t', e', ht'⟩ := hca _ c x h1 h2
    exact ⟨t', e', sBD _ _ ht'⟩
end
end My

namespace My
open PySem PySem.Spec PyProof.Rows L2 Pre
/-! ### what is handed in as a paper -/
def WidV (K : PySem.W.Frag) (H : Hp) (w : V) : WV → Prop
  | none => BadN K H w ∧ w ≠ .non
  | some none => w = .non
  | some (some i) => w = .int i
def ItemV (K : PySem.W.Frag) (H : Hp) (x : V) : CI → Prop
  | none => ∃ T : String, TyX K H x (.type T) ∧ kitB T "tuple" = some false
  | some (l, wv) => ∃ a w, x = .ref a ∧ H a = some (.tup [.int l, w]) ∧ WidV K H w wv
def CutsV (K : PySem.W.Frag) (H : Hp) (v : V) : Option (List CI) → Prop
  | none => ∃ T : String, TyX K H v (.type T) ∧ kitB T "list" = some false
  | some cs => ∃ a xs, v = .ref a ∧ H a = some (.lst xs) ∧ xs.length = cs.length ∧ cs.length ≤ 1000 ∧ ∀ (i : Nat) (x : V) (c : CI), xs[i]? = some x → cs[i]? = some c → ItemV K H x c
def PricesV (K : PySem.W.Frag) (H : Hp) (v : V) : Option (List Int) → Prop
  | none => ∃ T : String, TyX K H v (.type T) ∧ kitB T "list" = some false
  | some ps => ∃ a, v = .ref a ∧ H a = some (.lst (ps.map V.int)) ∧ ps.length ≤ 1001
def PapV (K : PySem.W.Frag) (H : Hp) (v : V) : PD → Prop
  | none => (∃ T : String, TyX K H v (.type T) ∧ kitB T "tuple" = some false) ∨ ∃ a xs, v = .ref a ∧ H a = some (.tup xs) ∧ xs.length ≠ 3
  | some (t, co, po) => ∃ a cv pv, v = .ref a ∧ H a = some (.tup [.int t, cv, pv]) ∧ CutsV K H cv co ∧ PricesV K H pv po
section
variable {K : PySem.W.Frag} {H H' : Hp}
theorem WidV.same {w : V} {wv : WV} (h : WidV K H w wv) (s : Same H H') : WidV K H' w wv := by
  cases wv with
  | none => exact ⟨h.1.same s, h.2⟩
  | some o => cases o <;> exact h
theorem ItemV.same {x : V} {c : CI} (h : ItemV K H x c) (s : Same H H') : ItemV K H' x c := by
  cases c with
  | none => obtain ⟨T, ty, e⟩ := h; exact ⟨T, ty.same s, e⟩
  | some q =>
    obtain ⟨l, wv⟩ := q
    obtain ⟨a, w, e, ha, hw⟩ := h
    exact ⟨a, w, e, s _ _ ha, hw.same s⟩
theorem CutsV.same {v : V} {o : Option (List CI)} (h : CutsV K H v o) (s : Same H H') : CutsV K H' v o := by
  cases o with
  | none => obtain ⟨T, ty, e⟩ := h; exact ⟨T, ty.same s, e⟩
  | some cs =>
    obtain ⟨a, xs, e, ha, hl, h1, hi⟩ := h
    exact ⟨a, xs, e, s _ _ ha, hl, h1, fun i x c a b => (hi i x c a b).same s⟩
theorem PricesV.same {v : V} {o : Option (List Int)} (h : PricesV K H v o) (s : Same H H') : PricesV K H' v o := by
  cases o with
  | none => obtain ⟨T, ty, e⟩ := h; exact ⟨T, ty.same s, e⟩
  | some ps =>
    obtain ⟨a, e, ha, hl⟩ := h
    exact ⟨a, e, s _ _ ha, hl⟩
theorem PapV.same {v : V} {pd : PD} (h : PapV K H v pd) (s : Same H H') : PapV K H' v pd := by
  cases pd with
  | none =>
    rcases h with ⟨T, ty, e⟩ | ⟨a, xs, e, ha, hl⟩
    · exact .inl ⟨T, ty.same s, e⟩
    · exact .inr ⟨a, xs, e, s _ _ ha, hl⟩
  | some q =>
    obtain ⟨t, co, po⟩ := q
    obtain ⟨a, cv, pv, e, ha, hc, hp⟩ := h
    exact ⟨a, cv, pv, e, s _ _ ha, hc.same s, hp.same s⟩
end
theorem cut_list {α : Type} (l : List α) (i j : Nat) : (l.drop (min i l.length)).take (min j l.length - min i l.length) = (l.drop i).take (j - i) := by
  rcases Nat.le_total i l.length with h | h
  · rw [Nat.min_eq_left h]
    rcases Nat.le_total j l.length with k | k
    · rw [Nat.min_eq_left k]
    · rw [Nat.min_eq_right k, List.take_of_length_le (l := l.drop i) (i := l.length - i) (by rw [List.length_drop]; exact Nat.le_refl _), List.take_of_length_le (by rw [List.length_drop]; omega)]
  · rw [Nat.min_eq_right h, List.drop_of_length_le (Nat.le_refl _), List.drop_of_length_le h]
    simp
theorem cut_slc (ns : List Int) (b : Nat) {l : Int} (h : 0 ≤ l) : cutV (ns.map V.int) (some (b : Int)) (some ((b : Int) + l)) = (slc ns b (b + l.toNat)).map V.int := by
  unfold cutV slc
  rw [show (b : Int) + l = ((b + l.toNat : Nat) : Int) by omega, HT.sIx_nat, HT.sIx_nat, cut_list, List.map_take, List.map_drop]
theorem slc_le {ns : List Int} {b p : Nat} : (slc ns b p).length ≤ ns.length := by
  unfold slc
  rw [List.length_take, List.length_drop]
  omega
theorem slc_sub {ns : List Int} {b p : Nat} {n : Int} (h : n ∈ slc ns b p) : n ∈ ns := List.mem_of_mem_drop (List.mem_of_mem_take h)
section
variable {bits : Option Nat} {few : Nat} {cost : Int} {ns : List Int}
theorem ccF_cut {cs : List CI} {i : Nat} {c : CI} {pl : Nat} {t : Int} (h : cs[i]? = some c) (hi : ccF bits few cost ns 0 0 (cs.take i) = some (pl, t)) : ccF bits few cost ns 0 0 (cs.take (i + 1)) = ccF bits few cost ns pl t [c] := by
  rw [List.take_add_one, h, ccF_app, hi]
  rfl
theorem ccF_none {cs : List CI} {i : Nat} (h : ccF bits few cost ns 0 0 (cs.take i) = none) : ccF bits few cost ns 0 0 cs = none := by
  rw [← List.take_append_drop i cs, ccF_app, h]
  rfl
/-- whether cuts are cuts -/
def cutB (bits : Option Nat) (few : Nat) (cost : Int) (ns : List Int) : Option (List CI) → Bool
  | some cs => match ccF bits few cost ns 0 0 cs with
    | some (p, _) => decide (p = ns.length)
    | none => false
  | none => false
/-! prices that hold, asked of each way -/
def WayHold (pb few : Nat) (cost : Int) (ns ps : List Int) (k : Kd) (p : Nat) : Prop := ∀ m b, hereW pb k ns p (stW pb few k ns (ps.map some) p) = some (m, b) → ps.getD p 0 ≤ m + cost
theorem hold_iff {ps : List Int} (hf : 1 ≤ few) (hF : Folds ns) (h40 : hb ns ≤ 40) (hl : ps.length = ns.length + 1) : Hold bits few cost ns ps ↔ ∀ p, 1 ≤ p → p ≤ ns.length → ∀ k ∈ kinds ns bits, WayHold (bits.getD 0) few cost ns ps k p := by
  have gat : ∀ {b}, b ≤ ns.length → (ps.map some)[b]? = some (some (ps.getD b 0)) := fun {b} hb => by
    rw [List.getElem?_map, List.getD_eq_getElem?_getD, List.getElem?_eq_getElem (by omega)]
    rfl
  constructor
  · intro h p h1 hp k hk m b e
    have ok := stW_ok (pb := bits.getD 0) (k := k) (ns := ns) (T := ps.map some) hf p
    unfold hereW at e
    obtain ⟨q, hq, eq⟩ := Option.map_eq_some_iff.mp e
    obtain ⟨m0, b0⟩ := q
    obtain ⟨⟨t, hv, em⟩, _⟩ := ok.some_ m0 b0 hq
    cases eq
    have hb : b0 ≤ p := by have := hv.1; omega
    have ht : t = ps.getD b0 0 := by
      have := hv.2.1
      rw [gat (by omega)] at this
      exact (Option.some.inj (Option.some.inj this)).symm
    have h2 := h b0 p hv.1 hp
    have h3 := str_low hF h40 hk hb hp hv.2.2
    unfold cst at h3
    show ps.getD p 0 ≤ m0 + sumTo (bits.getD 0) k ns p + cost
    omega
  · intro h b p hb hp
    obtain ⟨k, hk, ha, e⟩ := str_at (bits := bits) hF h40 (show b ≤ p by omega) hp
    have ok := stW_ok (pb := bits.getD 0) (k := k) (ns := ns) (T := ps.map some) hf p
    have hv : Val (bits.getD 0) few k ns (ps.map some) p b (ps.getD b 0) := ⟨hb, gat (by omega), ha⟩
    cases hq : (stW (bits.getD 0) few k ns (ps.map some) p).bst with
    | none => exact absurd hv (ok.none_ hq b _)
    | some q =>
      obtain ⟨m0, b0⟩ := q
      have h1 := h p (by omega) hp k hk (m0 + sumTo (bits.getD 0) k ns p) b0 (by unfold hereW; rw [hq]; rfl)
      have h2 := (ok.some_ m0 b0 hq).2 b _ hv
      unfold cst at e
      omega
end
end My

namespace My
open PySem PySem.Spec PyProof.Rows L2 Pre
/-! ### are_cuts, cost_of, prices_hold -/
theorem cutB_some (bits : Option Nat) (few : Nat) (cost : Int) (ns : List Int) (cs : List CI) : cutB bits few cost ns (some cs) = match ccF bits few cost ns 0 0 cs with
    | some (p, _) => decide (p = ns.length)
    | none => false := rfl
theorem dec_nat' (n m : Nat) : decide (V.int ((n : Nat) : Int) = V.int ((m : Nat) : Int)) = decide (n = m) := by
  by_cases h : n = m
  · subst h; rw [decide_eq_true rfl, decide_eq_true rfl]
  · rw [decide_eq_false h, decide_eq_false fun z => h (by have := V.int.inj z; omega)]
theorem sel_int (xs : List Int) (p : Int → Bool) : (xs.map fun n => if p n = true then some (V.int n) else none).filterMap id = (xs.filter p).map V.int := by
  induction xs with
  | nil => rfl
  | cons i l ih =>
    by_cases c : p i = true
    · rw [List.map_cons, if_pos c, List.filter_cons_of_pos c, List.map_cons, ← ih]
      rfl
    · rw [List.map_cons, if_neg c, List.filter_cons_of_neg c, ← ih]
      rfl
theorem plain_filter {pb : Nat} {xs : List Int} (h : ∀ n ∈ xs, 0 ≤ n) : xs.filter (fun n => decide (0 < n / 2 ^ pb)) = [] ↔ plainB pb xs = true := by
  unfold plainB
  rw [List.filter_eq_nil_iff, List.all_eq_true]
  constructor
  · intro a n hn
    have := a n hn
    rw [decide_eq_true_eq] at this
    exact decide_eq_true (Classical.byContradiction fun z => this ((high_iff (h n hn)).mpr z))
  · intro a n hn
    rw [decide_eq_true_eq]
    exact fun z => (high_iff (h n hn)).mp z (of_decide_eq_true (a n hn))
theorem some_in {xs : List V} {cs : List CI} (h : xs.length = cs.length) {i : Nat} {x : V} (hx : xs[i]? = some x) : ∃ c, cs[i]? = some c := ⟨cs[i]'(by rw [← h]; exact (List.getElem?_eq_some_iff.mp hx).1), List.getElem?_eq_getElem _⟩
local macro_rules | `(tactic| walk_at "go") => `(tactic| repeat (first | (with_reducible first | refine iteT ?_ | refine iteF ?_ | refine iteNtt ?_ | refine iteNff ?_ | refine iteET (by omega) ?_ | refine iteEF (by omega) ?_ | refine iteENT (by omega) ?_ | refine iteENF (by omega) ?_ | refine iteDT (by omega) ?_ | refine iteDF (by omega) ?_ | refine iteNT (by omega) ?_ | refine iteNF (by omega) ?_) | refine ⟨_, rfl, ?_⟩ | refine ⟨_, _, rfl, rfl, ?_⟩ | refine ⟨_, _, rfl, ?_⟩ | refine ⟨rfl, ?_⟩ | refine .inl ⟨_, rfl, ?_⟩ | refine .inr ⟨_, rfl, ?_⟩))
local macro_rules | `(tactic| walk_at "b") => `(tactic| try dsimp (config := { proj := false, iota := false, eta := false, zeta := false }) only)
section
variable {P : Program} {w : World} {K : PySem.W.Frag} {mg : Str → Option Value} {base : Heap}
def sp_are_cuts (K : PySem.W.Frag) : Sp := fun vs H Q _ => ∃ (a : Addr) (ns : List Int) (few : Nat) (cost : Int) (bits : Option Nat) (cv : V) (co : Option (List CI)), vs = [.ref a, .int few, optV bits, cv] ∧ FoldsAt K H a ns ∧ CutsV K H cv co ∧ 1 ≤ few ∧ ∀ H', Same H H' → Q (.bl (cutB bits few cost ns co)) H'
theorem G_are_cuts (T : Top K mg) : FnOk P w K mg base CX0 3 T.f_are_cuts T.fd_are_cuts ["folds", "few", "bits", "cuts"] (sp_are_cuts K) := by
  refine T.F_are_cuts.ok sc_are_cuts (fun vs H Q E h => by obtain ⟨a, ns, few, cost, bits, cv, co, rfl, _⟩ := h; rfl) (fun cdv A outer s H vs Q E hr h => ?_)
  obtain ⟨a, ns, few, cost, bits, cv, co, rfl, hA, hc, hf, q⟩ := h
  refine ⟨_, PSs.nox (pss_cons (ps_if (pt_not (pt_val (pe_callB (k_isi K rfl) (by rfl) T.n_isinstance (by decide +kernel) (pa_cons (pv 3) (pa_cons (pe_bltn (v := .ty "list") (by rfl) T.n_list (by decide +kernel) rfl) pa_nil)))))
    (pss_one (ps_ret pe_bl))
    pss_nil)
  (pss_cons (ps_set (i := 4) sc_are_cuts.nd rfl (by first | exact Or.inl rfl | exact Or.inr rfl) pe_int)
  (pss_cons (ps_for PassesOwn.never rfl (k_piL K rfl (pv 3)) (pg_name (i := 5) sc_are_cuts.nd rfl (by first | exact Or.inl rfl | exact Or.inr rfl))
    (pss_cons (ps_if (PW.pt (pw_or (pt_not (pt_val (pe_callB (k_isi K rfl) (by rfl) T.n_isinstance (by decide +kernel) (pa_cons (pv 5) (pa_cons (pe_bltn (v := .ty "tuple") (by rfl) T.n_tuple (by decide +kernel) rfl) pa_nil))))) (pw_or (pt_cmpR op_ne (pe_callB (k_len K rfl) (by rfl) T.n_len (by decide +kernel) (pa_cons (pv 5) pa_nil)) pe_int (nomark _)) (pw_or1 (pt_not (pt_val (pe_call (G_is_between T) (hr.mono (by decide)) (by rfl) T.g_is_between T.F_is_between.kp T.b_is_between .nil pass0 (pa_cons (pe_ix (k_ixT K rfl) (pv 5) pe_int (fun _ _ => rfl)) (pa_cons (pv 1) (pa_cons pe_non pa_nil))))))))))
    (pss_one (ps_ret pe_bl))
    pss_nil)
  (pss_cons (ps_set (i := 6) sc_are_cuts.nd rfl (by first | exact Or.inl rfl | exact Or.inr rfl) (pe_slice (k_slL K rfl) (pv 0) (po_some (pv 4)) (po_some (pe_op op_add (pv 4) (pe_ix (k_ixT K rfl) (pv 5) pe_int (fun _ _ => rfl))))))
  (pss_cons (ps_if (pt_cmpR op_isN (pe_ix (k_ixT K rfl) (pv 5) pe_int (fun _ _ => rfl)) pe_non (nomark _))
    (pss_one (ps_if (PW.pt (pw_or (pt_cmpR op_isN (pv 2) pe_non (nomark _)) (pw_or1 (pt_cmpR (k_neD K rfl hr.units) (pe_lc (own := [("unit", 7)]) (g := gName 7) (by rfl) sc_are_cuts.nd (k_piL K rfl (pv 6)) (blkOk_by (own := [("unit", 7)]) (N := N_are_cuts) (sc := defScope s_are_cuts) (by decide +kernel)) (fun _ _ _ _ _ => (pg_name (i := 7) sc_are_cuts.nd rfl (by first | exact Or.inl rfl | exact Or.inr rfl))) (fun _ _ _ _ _ => (pts_one (pt_cmpR op_gt (pe_op op_shr (pv 7) (pv 2)) pe_int (nomark _)))) (fun _ _ _ _ _ => (pv 7))) (pe_lst pa_nil) (nomark _)))))
    (pss_one (ps_ret pe_bl))
    pss_nil))
    (pss_one (ps_if (pt_not (pt_val (pe_call (G_is_between T) (hr.mono (by decide)) (by rfl) T.g_is_between T.F_is_between.kp T.b_is_between .nil pass0 (pa_cons (pe_ix (k_ixT K rfl) (pv 5) pe_int (fun _ _ => rfl)) (pa_cons pe_int (pa_cons (pe_glob (v := .int 120) rfl T.m_MOST_WIDTH ⟨_, rfl⟩) pa_nil))))))
    (pss_one (ps_ret pe_bl))
    pss_nil)))
  (pss_one (ps_set (i := 4) sc_are_cuts.nd rfl (by first | exact Or.inl rfl | exact Or.inr rfl) (pe_op op_add (pv 4) (pe_ix (k_ixT K rfl) (pv 5) pe_int (fun _ _ => rfl)))))))))
  (pss_one (ps_ret (pe_cmpR op_eq (pv 4) (pe_callB (k_len K rfl) (by rfl) T.n_len (by decide +kernel) (pa_cons (pv 0) pa_nil)) (nomark _))))))), ?_⟩
  cases co with
  | none =>
    obtain ⟨T1, ty, hT⟩ := hc
    exact ⟨_, rfl, _, _, _, _, false, rfl, .ty _, ty, kit_ty hT, false, rfl, iteT (q _ (Same.refl _))⟩
  | some cs =>
    obtain ⟨ca, xs, rfl, hca, hxl, hcl, hit⟩ := hc
    refine ⟨_, rfl, _, _, _, _, true, rfl, .ty _, .base (.lst hca), kit_ty (by decide +kernel), true, rfl, iteF ?_⟩
    simp only [tNext]
    have hF := hA.2.1
    refine ⟨_, rfl, ca, rfl, ⟨_, .inl (.inl hca)⟩, ?_⟩
    refine for_list (K := K) (a := ca) (xs := xs) (fun i σ HA => ∃ (pl : Nat) (t : Int) (v5 v6 : Option V), σ = [some (.ref a), some (.int few), some (optV bits), some (.ref ca), some (.int (pl : Nat)), v5, v6, none] ∧ Same H HA ∧ ccF bits few cost ns 0 0 (cs.take i) = some (pl, t)) ⟨0, 0, none, none, rfl, Same.refl _, rfl⟩ (fun i σ HA _ ⟨_, _, _, _, _, s, _⟩ => .inl (.inl (s _ _ hca))) ?_ ?_
    · rintro i x σ HA hx ⟨pl, t, v5, v6, rfl, sA, hcc⟩
      obtain ⟨c, hcx⟩ := some_in hxl hx
      have hit1 := (hit i x c hx hcx).same sA
      have hcut := ccF_cut hcx hcc
      have no : ccF bits few cost ns pl t [c] = none → ∀ H', Same HA H' → Q (.bl false) H' := fun e H' s' => by
        have := q H' (sA.trans s')
        rw [e] at hcut
        rw [cutB_some, ccF_none hcut] at this
        exact this
      cases c with
      | none =>
        obtain ⟨T1, ty, hT⟩ := hit1
        exact ⟨_, rfl, _, _, _, _, false, rfl, .ty _, ty, kit_ty hT, false, rfl, iteT (no rfl _ (Same.refl _))⟩
      | some q0 =>
        obtain ⟨l, wv⟩ := q0
        obtain ⟨ta, wd, rfl, hta, hwd⟩ := hit1
        refine ⟨_, rfl, _, _, _, _, true, rfl, .ty _, .base (.tup hta), kit_ty (by decide +kernel), true, rfl, iteF ?_⟩
        refine ⟨_, rfl, ta, _, rfl, .inr (.inl (.inl hta)), rfl, _, rfl, iteENF rfl ?_⟩
        refine ⟨_, rfl, ta, _, _, _, rfl, rfl, .inl (.inl hta), atI_nat (j := 0) rfl, _, rfl, .int l, few, none, _, rfl, .inl ⟨l, rfl, rfl⟩, _, rfl, ?_⟩
        by_cases c1 : (few : Int) ≤ l
        rotate_left
        · rw [decide_eq_false fun z => c1 z.1]
          exact iteT (no (by show (if (few : Int) ≤ l then _ else none) = none; rw [if_neg c1]) _ (Same.refl _))
        rw [decide_eq_true ⟨c1, fun j h => nomatch h⟩]
        refine iteF ?_
        have hone : ccF bits few cost ns pl t [some (l, wv)] = match okW bits (slc ns pl (pl + l.toNat)) l wv with
          | some c => some (pl + l.toNat, t + cost + c)
          | none => none := by
          show (if (few : Int) ≤ l then _ else none) = _
          rw [if_pos c1]
          cases okW bits (slc ns pl (pl + l.toNat)) l wv <;> rfl
        rw [hone] at hcut no
        clear hone
        have l0 : 0 ≤ l := by omega
        refine ⟨_, rfl, _, rfl, _, rfl, _, rfl, _, rfl, ta, _, _, _, rfl, rfl, .inl (.inl hta), atI_nat (j := 0) rfl, _, _, rfl, rfl, _, rfl, a, _, rfl, (sA.seq hA.sq), fun sp nsp => ?_⟩
        obtain ⟨HB, eB, sB, hsp⟩ := fresh (.lst (cutV (ns.map V.int) (some (pl : Int)) (some ((pl : Int) + l)))) nsp
        rw [eB]
        rw [cut_slc ns pl l0] at hsp
        have htaB := sB _ _ hta
        have hsub : ∀ n ∈ slc ns pl (pl + l.toNat), 0 ≤ n := fun n hn => hF.nn n (slc_sub hn)
        have hsl := slc_le (ns := ns) (b := pl) (p := pl + l.toNat)
        have hl1000 := hA.2.2
        generalize slc ns pl (pl + l.toNat) = xs' at *
        simp only [gName]
        refine ifs_join (fun σ' H' => σ' = [some (.ref a), some (.int few), some (optV bits), some (.ref ca), some (.int (pl : Nat)), some (.ref ta), some (.ref sp), none] ∧ Same HB H' ∧ ∃ c0, okW bits xs' l wv = some c0) (fun nx hnx => ?_) ?_
        · have stop : okW bits xs' l wv = none → ∀ H', Same HB H' → Q (.bl false) H' := fun e H' s' => no (by rw [e]) _ (sB.trans s')
          have gob : ∀ c0, okW bits xs' l wv = some c0 → ∀ H', Same HB H' → nx [some (.ref a), some (.int few), some (optV bits), some (.ref ca), some (.int (pl : Nat)), some (.ref ta), some (.ref sp), none] H' := fun c0 e H' s' => hnx _ _ ⟨rfl, s', c0, e⟩
          refine ⟨_, rfl, ta, _, _, _, rfl, rfl, .inl (.inl htaB), atI_nat (j := 1) rfl, rfl, _, rfl, ?_⟩
          cases wv with
          | none =>
            rw [decide_eq_false hwd.2]
            refine iteF ?_
            refine ⟨_, rfl, ta, _, _, _, rfl, rfl, .inl (.inl htaB), atI_nat (j := 1) rfl, wd, 0, some 120, false, rfl, .inr ⟨hwd.1.same sB, rfl⟩, _, rfl, iteT (stop rfl _ (Same.refl _))⟩
          | some o =>
            cases o with
            | some i0 =>
              obtain rfl : wd = .int i0 := hwd
              refine iteF ?_
              refine ⟨_, rfl, ta, _, _, _, rfl, rfl, .inl (.inl htaB), atI_nat (j := 1) rfl, .int i0, 0, some 120, _, rfl, .inl ⟨i0, rfl, rfl⟩, _, rfl, ?_⟩
              by_cases c2 : 0 ≤ i0 ∧ i0 ≤ 120
              · rw [decide_eq_true ⟨c2.1, fun j h => by cases h; exact c2.2⟩]
                exact iteF (gob _ (by show (if 0 ≤ i0 ∧ i0 ≤ 120 then _ else none) = _; rw [if_pos c2]) _ (Same.refl _))
              · rw [decide_eq_false fun z => c2 ⟨z.1, z.2 _ rfl⟩]
                exact iteT (stop (by show (if 0 ≤ i0 ∧ i0 ≤ 120 then _ else none) = none; rw [if_neg c2]) _ (Same.refl _))
            | none =>
              obtain rfl : wd = .non := hwd
              refine iteT ?_
              refine ⟨_, rfl, rfl, _, rfl, ?_⟩
              cases bits with
              | none => exact iteT (stop rfl _ (Same.refl _))
              | some pb =>
                refine iteF ?_
                refine ⟨_, rfl, sp, rfl, ⟨_, .inl (.inl hsp)⟩, fun D nD => ?_⟩
                refine lc_selL (K := K) (a := sp) (xs := xs'.map V.int) (xs'.map fun n => if decide (0 < n / 2 ^ pb) = true then some (V.int n) else none) nD (.inl (.inl hsp)) (by rw [List.length_map, List.length_map]) (by rw [List.length_map, sizeLine_eq]; omega) (fun x => rfl) ?_ ?_
                · intro i y o H' hy ho s' Qt qt
                  obtain ⟨n, hn, rfl⟩ := int_at hy
                  rw [List.getElem?_map, hn] at ho
                  have eo := Option.some.inj ho
                  dsimp only at eo
                  refine ⟨_, rfl, _, rfl, _, _, rfl, rfl, Int.natCast_nonneg _, _, _, rfl, rfl, _, rfl, ?_⟩
                  by_cases c3 : 0 < n / 2 ^ pb
                  · rw [if_pos (decide_eq_true c3)] at eo
                    subst eo
                    exact iteDT c3 ⟨_, rfl, qt _ (Same.refl _)⟩
                  · rw [if_neg (by rw [decide_eq_false c3]; decide)] at eo
                    subst eo
                    exact iteDF c3 (qt _ (Same.refl _))
                intro HC sC hD
                rw [sel_int xs' fun n => decide (0 < n / 2 ^ pb)] at hD
                refine ⟨(by show 0 ≤ sizeLine; decide), fun z nz => ?_⟩
                obtain ⟨HD, eD, sD, hz⟩ := fresh (.lst ([] : List V)) nz
                rw [eD]
                refine neD_lst (ms := []) (.inl (.inl (sD _ _ hD))) (.inl (.inl hz)) ⟨_, rfl, ?_⟩
                have hpl := plain_filter (pb := pb) hsub
                by_cases c4 : plainB pb xs' = true
                · rw [decide_eq_true (hpl.mpr c4)]
                  exact iteF (gob _ (by show (if plainB pb xs' = true then _ else none) = _; rw [if_pos c4]) _ (sC.trans sD))
                · rw [decide_eq_false fun z => c4 (hpl.mp z)]
                  exact iteT (stop (by show (if plainB pb xs' = true then _ else none) = none; rw [if_neg c4]) _ (sC.trans sD))
        rintro _ HC ⟨rfl, sC, c0, hc0⟩
        rw [hc0] at hcut
        refine ⟨_, rfl, _, rfl, ta, _, _, _, rfl, rfl, .inl (.inl (sC _ _ htaB)), atI_nat (j := 0) rfl, _, _, rfl, rfl, pl + l.toNat, t + cost + c0, some (.ref ta), some (.ref sp), ?_, (sA.trans sB).trans sC, hcut⟩
        show _ = [some (V.ref a), some (.int few), some (optV bits), some (.ref ca), some (.int ((pl + l.toNat : Nat) : Int)), some (.ref ta), some (.ref sp), none]
        rw [show ((pl + l.toNat : Nat) : Int) = (pl : Int) + l by omega]
        rfl
    · rintro σ HA ⟨pl, t, v5, v6, rfl, sA, hcc⟩
      rw [hxl, List.take_length] at hcc
      refine ⟨_, rfl, _, rfl, a, _, rfl, .inl (sA.seq hA.sq), rfl, ?_⟩
      have := q HA sA
      rw [cutB_some, hcc] at this
      rw [List.length_map, show decide (V.int ((pl : Nat) : Int) = V.int ((ns.length : Nat) : Int)) = decide (pl = ns.length) from dec_nat' _ _]
      exact this
def sp_cost_of (K : PySem.W.Frag) : Sp := fun vs H Q _ => ∃ (a : Addr) (ns : List Int) (few : Nat) (cost : Int) (bits : Option Nat) (cv : V) (cs : List CI) (p : Nat) (t : Int), vs = [.ref a, .int cost, optV bits, cv] ∧ FoldsAt K H a ns ∧ CutsV K H cv (some cs) ∧ ccF bits few cost ns 0 0 cs = some (p, t) ∧ bits.getD 0 ≤ 1000 ∧ ∀ H', Same H H' → Q (.int t) H'
theorem G_cost_of (T : Top K mg) : FnOk P w K mg base CX0 2 T.f_cost_of T.fd_cost_of ["folds", "cost", "bits", "cuts"] (sp_cost_of K) := by
  refine T.F_cost_of.ok sc_cost_of (fun vs H Q E h => by obtain ⟨a, ns, few, cost, bits, cv, cs, p, t, rfl, _⟩ := h; rfl) (fun cdv A outer s H vs Q E hr h => ?_)
  obtain ⟨a, ns, few, cost, bits, cv, cs, p, t, rfl, hA, hc, he, hbt, q⟩ := h
  refine ⟨_, PSs.nox (pss_cons (ps_asg (pe_tup (pa_cons pe_int (pa_cons pe_int pa_nil))) (k_pgT K rfl (by rfl) (pgs_cons (pg_name (i := 4) sc_cost_of.nd rfl (by first | exact Or.inl rfl | exact Or.inr rfl)) (pgs_cons (pg_name (i := 5) sc_cost_of.nd rfl (by first | exact Or.inl rfl | exact Or.inr rfl)) pgs_nil))))
  (pss_cons (ps_for PassesOwn.never rfl (k_piL K rfl (pv 3)) (k_pgT K rfl (by rfl) (pgs_cons (pg_name (i := 6) sc_cost_of.nd rfl (by first | exact Or.inl rfl | exact Or.inr rfl)) (pgs_cons (pg_name (i := 7) sc_cost_of.nd rfl (by first | exact Or.inl rfl | exact Or.inr rfl)) pgs_nil)))
    (pss_cons (ps_set (i := 8) sc_cost_of.nd rfl (by first | exact Or.inl rfl | exact Or.inr rfl) (pe_slice (k_slL K rfl) (pv 0) (po_some (pv 5)) (po_some (pe_op op_add (pv 5) (pv 6)))))
  (pss_cons (ps_set (i := 4) sc_cost_of.nd rfl (by first | exact Or.inl rfl | exact Or.inr rfl) (pe_op op_add (pe_op op_add (pv 4) (pv 1)) (pe_ifExp (pt_cmpR op_isN (pv 7) pe_non (nomark _)) (pe_op op_mul (pv 2) (pv 6)) (pe_call (G_raw_price T) (hr.mono (by decide)) (by rfl) T.g_raw_price T.F_raw_price.kp T.b_raw_price .nil pass0 (pa_cons (pv 8) (pa_cons (pv 7) pa_nil))))))
  (pss_one (ps_set (i := 5) sc_cost_of.nd rfl (by first | exact Or.inl rfl | exact Or.inr rfl) (pe_op op_add (pv 5) (pv 6)))))))
  (pss_one (ps_ret (pv 4))))), ?_⟩
  obtain ⟨ca, xs, rfl, hca, hxl, hcl, hit⟩ := hc
  have hF := hA.2.1
  have hl1000 := hA.2.2
  refine ⟨(by show 2 ≤ sizeLine; decide), fun z nz => ?_⟩
  obtain ⟨H1, e1, s1, hz⟩ := fresh (.tup [V.int 0, .int 0]) nz
  rw [e1]
  refine ⟨z, _, rfl, .inl (.inl hz), rfl, _, _, rfl, _, _, rfl, rfl, ?_⟩
  have hca1 := s1 _ _ hca
  refine ⟨_, rfl, ca, rfl, ⟨_, .inl (.inl hca1)⟩, ?_⟩
  refine for_list (K := K) (a := ca) (xs := xs) (fun i σ HA => ∃ (pl : Nat) (tt : Int) (v6 v7 v8 : Option V), σ = [some (.ref a), some (.int cost), some (optV bits), some (.ref ca), some (.int tt), some (.int (pl : Nat)), v6, v7, v8] ∧ Same H1 HA ∧ ccF bits few cost ns 0 0 (cs.take i) = some (pl, tt)) ⟨0, 0, none, none, none, rfl, Same.refl _, rfl⟩ (fun i σ HA _ ⟨_, _, _, _, _, _, s, _⟩ => .inl (.inl (s _ _ hca1))) ?_ ?_
  · rintro i x σ HA hx ⟨pl, tt, v6, v7, v8, rfl, sA, hcc⟩
    obtain ⟨c, hcx⟩ := some_in hxl hx
    have hit1 := ((hit i x c hx hcx).same s1).same sA
    have hcut := ccF_cut hcx hcc
    have hne : ccF bits few cost ns pl tt [c] ≠ none := fun e' => by
      rw [e'] at hcut
      rw [ccF_none hcut] at he
      cases he
    cases c with
    | none => exact absurd rfl hne
    | some q0 =>
      obtain ⟨l, wv⟩ := q0
      obtain ⟨ta, wd, rfl, hta, hwd⟩ := hit1
      by_cases c1 : (few : Int) ≤ l
      rotate_left
      · exact absurd (show (if (few : Int) ≤ l then _ else none) = none by rw [if_neg c1]) hne
      have hone : ccF bits few cost ns pl tt [some (l, wv)] = match okW bits (slc ns pl (pl + l.toNat)) l wv with
        | some c => some (pl + l.toNat, tt + cost + c)
        | none => none := by
        show (if (few : Int) ≤ l then _ else none) = _
        rw [if_pos c1]
        cases okW bits (slc ns pl (pl + l.toNat)) l wv <;> rfl
      rw [hone] at hcut hne
      clear hone
      have l0 : 0 ≤ l := by omega
      refine ⟨ta, _, rfl, .inl (.inl hta), rfl, _, _, rfl, _, _, rfl, rfl, ?_⟩
      refine ⟨_, rfl, _, rfl, _, rfl, _, rfl, _, rfl, _, _, rfl, rfl, _, rfl, a, _, rfl, ((s1.trans sA).seq hA.sq), fun sp nsp => ?_⟩
      obtain ⟨HB, eB, sB, hsp⟩ := fresh (.lst (cutV (ns.map V.int) (some (pl : Int)) (some ((pl : Int) + l)))) nsp
      rw [eB]
      rw [cut_slc ns pl l0] at hsp
      have hsl := slc_le (ns := ns) (b := pl) (p := pl + l.toNat)
      generalize slc ns pl (pl + l.toNat) = xs' at *
      obtain ⟨c0, hc0⟩ : ∃ c0, okW bits xs' l wv = some c0 := by
        cases h : okW bits xs' l wv with
        | none => rw [h] at hne; exact absurd rfl hne
        | some c0 => exact ⟨c0, rfl⟩
      rw [hc0] at hcut
      have fin : ∀ H', Same HB H' → ∃ (pl' : Nat) (tt' : Int) (v6 v7 v8 : Option V), ([some (.ref a), some (.int cost), some (optV bits), some (.ref ca), some (.int (tt + cost + c0)), some (.int ((pl : Int) + l)), some (.int l), some wd, some (.ref sp)] : L2.St) = [some (.ref a), some (.int cost), some (optV bits), some (.ref ca), some (.int tt'), some (.int (pl' : Nat)), v6, v7, v8] ∧ Same H1 H' ∧ ccF bits few cost ns 0 0 (cs.take (i + 1)) = some (pl', tt') := fun H' s' => ⟨pl + l.toNat, tt + cost + c0, _, _, _, by rw [show ((pl + l.toNat : Nat) : Int) = (pl : Int) + l by omega], (sA.trans sB).trans s', hcut⟩
      refine ⟨_, rfl, _, rfl, _, _, rfl, rfl, _, rfl, rfl, _, rfl, ?_⟩
      cases wv with
      | none => exact absurd hc0 (by show (none : Option Int) ≠ _; exact fun z => nomatch z)
      | some o =>
        cases o with
        | none =>
          obtain rfl : wd = .non := hwd
          cases bits with
          | none => exact absurd hc0 (by show (none : Option Int) ≠ _; exact fun z => nomatch z)
          | some pb =>
            have hpb : pb ≤ 1000 := hbt
            have ec : (pb : Int) * l = c0 := by
              have h2 : (if plainB pb xs' = true then some ((pb : Int) * l) else none) = some c0 := hc0
              by_cases c4 : plainB pb xs' = true
              · rw [if_pos c4] at h2; exact Option.some.inj h2
              · rw [if_neg c4] at h2; cases h2
            refine iteT ?_
            refine ⟨_, rfl, _, rfl, _, _, rfl, rfl, .inl ⟨by omega, by omega⟩, _, _, rfl, rfl, ?_⟩
            dsimp only
            rw [ec]
            exact ⟨_, rfl, _, rfl, _, _, rfl, rfl, fin _ (Same.refl _)⟩
        | some i0 =>
          obtain rfl : wd = .int i0 := hwd
          have h2 : (if 0 ≤ i0 ∧ i0 ≤ 120 then some (price xs' i0.toNat) else none) = some c0 := hc0
          by_cases c4 : 0 ≤ i0 ∧ i0 ≤ 120
          rotate_left
          · rw [if_neg c4] at h2; cases h2
          rw [if_pos c4] at h2
          have ec := Option.some.inj h2
          refine iteF ?_
          refine ⟨_, rfl, _, rfl, sp, xs', i0.toNat, by rw [Int.toNat_of_nonneg c4.1]; rfl, .inl (.inl hsp), by omega, fun HC sC => ⟨_, _, rfl, rfl, ?_⟩⟩
          dsimp only
          rw [ec]
          exact ⟨_, rfl, _, rfl, _, _, rfl, rfl, fin _ sC⟩
  · rintro σ HA ⟨pl, tt, v6, v7, v8, rfl, sA, hcc⟩
    rw [hxl, List.take_length, he] at hcc
    cases hcc
    exact ⟨_, rfl, q _ (s1.trans sA)⟩
end
end My

namespace My
open PySem PySem.Spec PyProof.Rows L2 Pre
/-! ### prices_hold, is_cuts_paper -/
local macro_rules | `(tactic| walk_at "go") => `(tactic| repeat (first | (with_reducible first | refine iteT ?_ | refine iteF ?_ | refine iteNtt ?_ | refine iteNff ?_ | refine iteET (by omega) ?_ | refine iteEF (by omega) ?_ | refine iteENT (by omega) ?_ | refine iteENF (by omega) ?_ | refine iteDT (by omega) ?_ | refine iteDF (by omega) ?_ | refine iteNT (by omega) ?_ | refine iteNF (by omega) ?_) | refine ⟨_, rfl, ?_⟩ | refine ⟨_, _, rfl, rfl, ?_⟩ | refine ⟨_, _, rfl, ?_⟩ | refine ⟨rfl, ?_⟩ | refine .inl ⟨_, rfl, ?_⟩ | refine .inr ⟨_, rfl, ?_⟩))
local macro_rules | `(tactic| walk_at "b") => `(tactic| try dsimp (config := { proj := false, iota := false, eta := false, zeta := false }) only)
section
variable {P : Program} {w : World} {K : PySem.W.Frag} {mg : Str → Option Value} {base : Heap}
def sp_prices_hold (C : Addr) (K : PySem.W.Frag) : Sp := fun vs H Q _ => ∃ (a pp : Addr) (ns ps : List Int) (few : Nat) (cost : Int) (bits : Option Nat), vs = [.ref a, .int few, .int cost, optV bits, .ref pp] ∧ FoldsAt K H a ns ∧ hb ns ≤ 40 ∧ bits.getD 0 ≤ 1000 ∧ 1 ≤ few ∧ H pp = some (.lst (ps.map V.int)) ∧ ps.length = ns.length + 1 ∧ ∀ H' r, Same H H' → (r = true ↔ Hold bits few cost ns ps) → Q (.bl r) H'
theorem G_prices_hold (T : Top K mg) : FnOk P w K mg base CX0 5 T.f_prices_hold T.fd_prices_hold ["folds", "few", "cost", "bits", "prices"] (sp_prices_hold T.C_Way K) := by
  refine T.F_prices_hold.ok sc_prices_hold (fun vs H Q E h => by obtain ⟨a, pp, ns, ps, few, cost, bits, rfl, _⟩ := h; rfl) (fun cdv A outer s H vs Q E hr h => ?_)
  obtain ⟨a, pp, ns, ps, few, cost, bits, rfl, hA, hh, hbt, hf, hpp, hpl, q⟩ := h
  refine ⟨_, PSs.nox (pss_cons (ps_set (i := 5) sc_prices_hold.nd rfl (by first | exact Or.inl rfl | exact Or.inr rfl) (pe_call (G_ways_of T) (hr.mono (by decide)) (by rfl) T.g_ways_of T.F_ways_of.kp T.b_ways_of .nil pass0 (pa_cons (pv 0) (pa_cons (pv 3) pa_nil))))
  (pss_cons (ps_for PassesOwn.never rfl (pi_range2 (by rfl) T.n_range (pa_cons pe_int (pa_cons (pe_op op_add (pe_callB (k_len K rfl) (by rfl) T.n_len (by decide +kernel) (pa_cons (pv 0) pa_nil)) pe_int) pa_nil))) (pg_name (i := 6) sc_prices_hold.nd rfl (by first | exact Or.inl rfl | exact Or.inr rfl))
    (pss_one (ps_for PassesOwn.never rfl (k_piL K rfl (pv 5)) (pg_name (i := 7) sc_prices_hold.nd rfl (by first | exact Or.inl rfl | exact Or.inr rfl))
    (pss_cons (ps_expr (pe_meth (pv 7) T.cl_Way T.me_Way_passed (G_Way_passed T) (hr.mono (by decide)) T.b_Way_passed .nil pass0 (pa_cons (pv 6) pa_nil)))
  (pss_cons (ps_if (pt_cmpR op_ge (pv 6) (pv 1) (nomark _))
    (pss_one (ps_expr (pe_meth (pv 7) T.cl_Way T.me_Way_begin (G_Way_begin T) (hr.mono (by decide)) T.b_Way_begin .nil pass0 (pa_cons (pe_op op_sub (pv 6) (pv 1)) (pa_cons (pe_ix (k_ixL K rfl) (pv 4) (pe_op op_sub (pv 6) (pv 1)) (fun _ _ => rfl)) pa_nil)))))
    pss_nil)
  (pss_cons (ps_set (i := 8) sc_prices_hold.nd rfl (by first | exact Or.inl rfl | exact Or.inr rfl) (pe_meth (pv 7) T.cl_Way T.me_Way_least (G_Way_least T) (hr.mono (by decide)) T.b_Way_least .nil pass0 (pa_cons (pv 6) pa_nil)))
  (pss_one (ps_if (PW.pt (pw_and (pt_cmpR op_notN (pv 8) pe_non (nomark _)) (pw_and1 (pt_cmpR op_gt (pe_ix (k_ixL K rfl) (pv 4) (pv 6) (fun _ _ => rfl)) (pe_op op_add (pe_ix (k_ixT K rfl) (pv 8) pe_int (fun _ _ => rfl)) (pv 2)) (nomark _)))))
    (pss_one (ps_ret pe_bl))
    pss_nil))))))))
  (pss_one (ps_ret pe_bl)))), ?_⟩
  have hl : ns.length ≤ 1000 := hA.2.2
  have hlen : (ns.map V.int).length = ns.length := List.length_map ..
  have hF := hA.2.1
  have hiff := hold_iff (bits := bits) (few := few) (cost := cost) (ns := ns) (ps := ps) hf hF hh hpl
  refine ⟨_, rfl, _, rfl, a, ns, bits, rfl, hA.sq, hl, by omega, hbt, fun H3 L xs s3 nL nxs hL hW => ?_⟩
  have Lpp : L ≠ pp := fun z => by rw [z, hpp] at nL; cases nL
  have ppx : pp ∉ xs := fun z => by have := nxs _ z; rw [hpp] at this; cases this
  have hklen : (kinds ns bits).length = xs.length := hW.len.symm
  obtain ⟨wk, hwk⟩ : ∃ wk, kinds ns bits = wk := ⟨_, rfl⟩
  rw [hwk] at hW hklen hiff
  obtain ⟨pb, hpb⟩ : ∃ pb, bits.getD 0 = pb := ⟨_, rfl⟩
  rw [hpb] at hW hiff
  have Lx : L ∉ xs := fun z => by
    obtain ⟨i, hi⟩ := List.getElem?_of_mem z
    obtain ⟨k, hk⟩ : ∃ k, wk[i]? = some k := ⟨wk[i]'(by rw [hklen]; exact (List.getElem?_eq_some_iff.mp hi).1), List.getElem?_eq_getElem _⟩
    obtain ⟨dx, fs, h⟩ := (hW.at_ i L k hi hk).ins
    rw [hL] at h
    cases h
  have sameK : ∀ {HA : Hp}, (∀ b o, b ∉ xs → H3 b = some o → HA b = some o) → Same H HA := fun {HA} hk c o h => hk _ _ (fun z => by have := nxs _ z; rw [h] at this; cases this) (s3 _ _ h)
  have pgat : ∀ {b}, b ≤ ns.length → ps[b]? = some (ps.getD b 0) := fun {b} hb => by
    rw [List.getD_eq_getElem?_getD, List.getElem?_eq_getElem (by omega)]
    rfl
  have tgat : ∀ {b}, b ≤ ns.length → (ps.map some)[b]? = some (some (ps.getD b 0)) := fun {b} hb => by
    rw [List.getElem?_map, pgat hb]
    rfl
  have vgat : ∀ {b}, b ≤ ns.length → atI (ps.map V.int) ((b : Nat) : Int) = some (.int (ps.getD b 0)) := fun {b} hb => atI_nat (by rw [List.getElem?_map, pgat hb]; rfl)
  refine ⟨_, rfl, a, _, rfl, .inl (s3.seq hA.sq), _, _, rfl, rfl, ?_⟩
  have e3 : (((ns.length + 1 : Nat) : Int) - 1).toNat = ns.length := by omega
  refine ⟨1, ((ns.length + 1 : Nat) : Int), by rw [hlen]; rfl, ⟨by decide, by decide, by omega, by omega⟩, ?_⟩
  rw [e3]
  refine for_range (lo := 1) (n := ns.length) (fun i σ HA => ∃ v6 v7 v8 : Option V, σ = [some (.ref a), some (.int few), some (.int cost), some (optV bits), some (.ref pp), some (.ref L), v6, v7, v8] ∧ (∀ b o, b ∉ xs → H3 b = some o → HA b = some o) ∧
      (∀ p, 1 ≤ p → p ≤ i → ∀ k ∈ wk, WayHold pb few cost ns ps k p) ∧ WaysX T.C_Way HA xs wk pb ns (fun k => stW pb few k ns (ps.map some) i))
    ⟨none, none, none, rfl, fun b o _ h => h, fun p h1 h2 => by omega, hW⟩ ?_ ?_
  · rintro i σ HA hi ⟨v6, v7, v8, rfl, hk, hall, hWA⟩
    rw [show (1 : Int) + (i : Int) = ((i + 1 : Nat) : Int) by omega]
    have hLA := hk _ _ Lx hL
    have hpA := sameK hk _ _ hpp
    refine ⟨_, rfl, L, rfl, ⟨_, .inl (.inl hLA)⟩, ?_⟩
    refine for_list (K := K) (a := L) (xs := xs.map V.ref) (fun j σ HB => ∃ (w7 w8 : Option V), σ = [some (.ref a), some (.int few), some (.int cost), some (optV bits), some (.ref pp), some (.ref L), some (.int ((i + 1 : Nat) : Int)), w7, w8] ∧ (∀ b o, b ∉ xs → HA b = some o → HB b = some o) ∧
        (∀ k ∈ wk.take j, WayHold pb few cost ns ps k (i + 1)) ∧ ∀ (l : Nat) (x : Addr) (k : Kd), xs[l]? = some x → wk[l]? = some k → WayAt T.C_Way HB x k pb ns (if l < j then stW pb few k ns (ps.map some) (i + 1) else stW pb few k ns (ps.map some) i))
      ⟨v7, v8, rfl, fun b o _ h => h, (fun k h => by cases h), fun l x k h1 h2 => by rw [if_neg (Nat.not_lt_zero l)]; exact hWA.at_ l x k h1 h2⟩ (fun j σ HB _ ⟨_, _, _, h, _⟩ => .inl (.inl (h _ _ Lx hLA))) ?_ ?_
    · rintro j y σ HB hy ⟨w7, w8, rfl, hkB, hallB, hWB⟩
      rw [List.getElem?_map] at hy
      obtain ⟨x, hx, rfl⟩ := Option.map_eq_some_iff.mp hy
      obtain ⟨k, hkd⟩ : ∃ k, wk[j]? = some k := ⟨wk[j]'(by rw [hklen]; exact (List.getElem?_eq_some_iff.mp hx).1), List.getElem?_eq_getElem _⟩
      have hW1 := hWB j x k hx hkd
      rw [if_neg (Nat.lt_irrefl j)] at hW1
      have hik : shutAt pb k ns (i + 1 - 1) = shutAt pb k ns i := rfl
      obtain ⟨dx, S, T', bw, hins, hr⟩ := id hW1
      refine ⟨_, rfl, x, dx, _, rfl, hins, rfl, _, rfl, x, k, pb, ns, _, i + 1, rfl, hW1, by omega, by omega, hl, fun H4 b4 hW4 => ?_⟩
      clear hins hr
      have hp4 := b4 _ _ (fun z => ppx (by rw [z]; exact List.mem_of_getElem? hx)) (hkB _ _ ppx hpA)
      -- begin
      dsimp only
      refine ifs_join (fun σ' H' => σ' = [some (.ref a), some (.int few), some (.int cost), some (optV bits), some (.ref pp), some (.ref L), some (.int ((i + 1 : Nat) : Int)), some (.ref x), w8] ∧ Butx x H4 H' ∧ WayAt T.C_Way H' x k pb ns (stW pb few k ns (ps.map some) (i + 1))) (fun nx hnx => ?_) ?_
      · have est : stW pb few k ns (ps.map some) (i + 1) = begO pb few k ns (ps.map some) (i + 1) (passW (shutAt pb k ns i) (i + 1) (stW pb few k ns (ps.map some) i)) := rfl
        rw [est] at hnx
        rw [hik] at hW4
        generalize passW (shutAt pb k ns i) (i + 1) (stW pb few k ns (ps.map some) i) = s1 at *
        unfold begO at hnx
        refine ⟨_, rfl, _, rfl, _, _, rfl, rfl, _, rfl, ?_⟩
        by_cases c : few ≤ i + 1
        rotate_left
        · rw [show decide ((few : Int) ≤ ((i + 1 : Nat) : Int)) = false from decide_eq_false (by omega)]
          rw [if_neg c] at hnx
          exact iteF (hnx _ _ ⟨rfl, fun b o n h => h, hW4⟩)
        rw [show decide ((few : Int) ≤ ((i + 1 : Nat) : Int)) = true from decide_eq_true (by omega)]
        rw [if_pos c, tgat (show i + 1 - few ≤ ns.length by omega)] at hnx
        refine iteT ?_
        have eidx : ((i + 1 : Nat) : Int) - (few : Int) = ((i + 1 - few : Nat) : Int) := by omega
        have hat : atI (ps.map V.int) (((i + 1 : Nat) : Int) - (few : Int)) = some (.int (ps.getD (i + 1 - few) 0)) := by rw [eidx]; exact vgat (by omega)
        obtain ⟨dx, S, T', bw, hins, hr⟩ := id hW4
        refine ⟨_, rfl, x, dx, _, rfl, hins, rfl, _, rfl, _, rfl, _, _, rfl, rfl, _, rfl, _, rfl, _, rfl, _, _, rfl, rfl, pp, _, _, _, rfl, rfl, .inl (.inl hp4), hat, ?_⟩
        exact ⟨x, k, pb, ns, s1, i + 1 - few, _, by rw [← eidx]; rfl, hW4, by omega, hl, fun H5 b5 hW5 => hnx _ _ ⟨rfl, b5, hW5⟩⟩
      rintro _ H5 ⟨rfl, b5, hW5⟩
      -- least
      obtain ⟨dx, S, T', bw, hins, hr⟩ := id hW5
      refine ⟨_, rfl, x, dx, _, rfl, hins, rfl, _, rfl, x, k, pb, ns, _, i + 1, rfl, hW5, by omega, hl, fun H6 hv s6 hhv => ?_⟩
      clear hins hr
      have hkd' : wk.take (j + 1) = wk.take j ++ [k] := by rw [List.take_add_one, hkd]; rfl
      have hkm : k ∈ wk := List.mem_of_getElem? hkd
      have bB6 : ∀ b o, b ≠ x → HB b = some o → H6 b = some o := fun b o n h => s6 _ _ (b5 _ _ n (b4 _ _ n h))
      have nbx : ∀ {b}, b ∉ xs → b ≠ x := fun {b} nb z => nb (by rw [z]; exact List.mem_of_getElem? hx)
      have hp6 := bB6 _ _ (nbx ppx) (hkB _ _ ppx hpA)
      have s36 : Same H H6 := sameK fun b o nb h => bB6 _ _ (nbx nb) (hkB _ _ nb (hk _ _ nb h))
      have fin : WayHold pb few cost ns ps k (i + 1) → ∃ (w7 w8 : Option V), ([some (.ref a), some (.int few), some (.int cost), some (optV bits), some (.ref pp), some (.ref L), some (.int ((i + 1 : Nat) : Int)), some (.ref x), some hv] : L2.St) = [some (.ref a), some (.int few), some (.int cost), some (optV bits), some (.ref pp), some (.ref L), some (.int ((i + 1 : Nat) : Int)), w7, w8] ∧ (∀ b o, b ∉ xs → HA b = some o → H6 b = some o) ∧
          (∀ k ∈ wk.take (j + 1), WayHold pb few cost ns ps k (i + 1)) ∧ ∀ (l : Nat) (x : Addr) (k : Kd), xs[l]? = some x → wk[l]? = some k → WayAt T.C_Way H6 x k pb ns (if l < j + 1 then stW pb few k ns (ps.map some) (i + 1) else stW pb few k ns (ps.map some) i) := fun hwh => by
        refine ⟨_, _, rfl, fun b o nb h => bB6 _ _ (nbx nb) (hkB _ _ nb h), fun k' hk' => ?_, fun l y k' h1 h2 => ?_⟩
        · rw [hkd'] at hk'
          rcases List.mem_append.mp hk' with z | z
          · exact hallB k' z
          · rw [List.mem_singleton.mp z]; exact hwh
        by_cases c : l = j
        · subst c
          rw [hx] at h1
          rw [hkd] at h2
          cases h1
          cases h2
          rw [if_pos (Nat.lt_succ_self _)]
          exact hW5.same s6
        · have hyx : y ≠ x := fun z => c (by
            have e1 := List.getElem?_eq_some_iff.mp h1
            have e2 := List.getElem?_eq_some_iff.mp hx
            obtain ⟨p1, q1⟩ := e1
            obtain ⟨p2, q2⟩ := e2
            exact (List.getElem_inj hW.nd).mp (by rw [q1, q2, z]))
          have hold := hWB l y k' h1 h2
          have h4 := hold.but hyx hW1.ins b4
          have h5 := h4.but hyx hW4.ins b5
          have h6 := h5.same s6
          by_cases d : l < j
          · rw [if_pos d] at h6
            rw [if_pos (by omega)]
            exact h6
          · rw [if_neg d] at h6
            rw [if_neg (by omega)]
            exact h6
      unfold WayHold at fin
      have bad : ∀ m b, hereW pb k ns (i + 1) (stW pb few k ns (ps.map some) (i + 1)) = some (m, b) → ¬ ps.getD (i + 1) 0 ≤ m + cost → ¬ Hold bits few cost ns ps := fun m b e n h => n (hiff.mp h (i + 1) (by omega) (by omega) k hkm m b e)
      generalize hereW pb k ns (i + 1) (stW pb few k ns (ps.map some) (i + 1)) = hw at *
      refine ⟨_, rfl, rfl, _, rfl, ?_⟩
      cases hw with
      | none =>
        obtain rfl : hv = .non := hhv
        refine iteF ?_
        exact fin fun m b e => by cases e
      | some y =>
        obtain ⟨m, b0⟩ := y
        obtain ⟨th, rfl, hth⟩ := hhv
        refine iteT ?_
        refine ⟨_, rfl, _, rfl, pp, _, _, _, rfl, rfl, .inl (.inl hp6), vgat (show i + 1 ≤ ns.length by omega), _, rfl, th, _, _, _, rfl, rfl, .inl (.inl hth), atI_nat (j := 0) rfl, _, rfl, _, _, rfl, rfl, _, _, rfl, rfl, _, rfl, ?_⟩
        by_cases c : m + cost < ps.getD (i + 1) 0
        · rw [show decide (m + cost < ps.getD (i + 1) 0) = true from decide_eq_true c]
          refine iteT ?_
          exact q _ _ s36 ⟨(fun z => by cases z), fun z => absurd z (bad m b0 rfl (by omega))⟩
        · rw [show decide (m + cost < ps.getD (i + 1) 0) = false from decide_eq_false c]
          refine iteF ?_
          exact fin fun m' b' e => by cases e; omega
    · rintro σ HB ⟨w7, w8, rfl, hkB, hallB, hWB⟩
      rw [List.length_map, ← hklen, List.take_length] at hallB
      refine ⟨_, _, _, rfl, fun b o nb h => hkB _ _ nb (hk _ _ nb h), fun p h1 h2 k hkm => ?_, hW.len, hW.nd, fun l x k h1 h2 => ?_⟩
      · by_cases c : p = i + 1
        · subst c; exact hallB k hkm
        · exact hall p h1 (by omega) k hkm
      · have h3 := hWB l x k h1 h2
        rw [if_pos (by rw [List.length_map]; exact (List.getElem?_eq_some_iff.mp h1).1)] at h3
        exact h3
  · rintro σ HA ⟨v6, v7, v8, rfl, hk, hall, hWA⟩
    exact q _ _ (sameK hk) ⟨fun _ => hiff.mpr hall, fun _ => rfl⟩
def sp_is_cuts_paper (K : PySem.W.Frag) : Sp := fun vs H Q _ => ∃ (a : Addr) (ns : List Int) (few : Nat) (cost : Int) (bits : Option Nat) (v : V) (pd : PD), vs = [.ref a, .int few, .int cost, optV bits, v] ∧ FoldsAt K H a ns ∧ hb ns ≤ 40 ∧ bits.getD 0 ≤ 1000 ∧ 1 ≤ few ∧ 0 ≤ cost ∧ PapV K H v pd ∧ ∀ H' r, Same H H' → (r = true ↔ Paper bits few cost ns pd) → Q (.bl r) H'
theorem G_is_cuts_paper (T : Top K mg) : FnOk P w K mg base CX0 6 T.f_is_cuts_paper T.fd_is_cuts_paper ["folds", "few", "cost", "bits", "value"] (sp_is_cuts_paper K) := by
  refine T.F_is_cuts_paper.ok sc_is_cuts_paper (fun vs H Q E h => by obtain ⟨a, ns, few, cost, bits, v, pd, rfl, _⟩ := h; rfl) (fun cdv A outer s H vs Q E hr h => ?_)
  obtain ⟨a, ns, few, cost, bits, v, pd, rfl, hA, hh, hbt, hf, hc, hp, q⟩ := h
  refine ⟨_, PSs.nox (pss_cons (ps_expr (pe_call (G_check_cutting T) (hr.mono (by decide)) (by rfl) T.g_check_cutting T.F_check_cutting.kp T.b_check_cutting .nil pass0 (pa_cons (pv 0) (pa_cons (pv 1) (pa_cons (pv 2) (pa_cons (pv 3) pa_nil))))))
  (pss_cons (ps_if (PW.pt (pw_or (pt_not (pt_val (pe_callB (k_isi K rfl) (by rfl) T.n_isinstance (by decide +kernel) (pa_cons (pv 4) (pa_cons (pe_bltn (v := .ty "tuple") (by rfl) T.n_tuple (by decide +kernel) rfl) pa_nil))))) (pw_or (pt_cmpR op_ne (pe_callB (k_len K rfl) (by rfl) T.n_len (by decide +kernel) (pa_cons (pv 4) pa_nil)) pe_int (nomark _)) (pw_or1 (pt_not (pt_val (pe_call (G_is_whole T) (hr.mono (by decide)) (by rfl) T.g_is_whole T.F_is_whole.kp T.b_is_whole .nil pass0 (pa_cons (pe_ix (k_ixT K rfl) (pv 4) pe_int (fun _ _ => rfl)) pa_nil))))))))
    (pss_one (ps_ret pe_bl))
    pss_nil)
  (pss_cons (ps_asg (pv 4) (k_pgT K rfl (by rfl) (pgs_cons (pg_name (i := 5) sc_is_cuts_paper.nd rfl (by first | exact Or.inl rfl | exact Or.inr rfl)) (pgs_cons (pg_name (i := 6) sc_is_cuts_paper.nd rfl (by first | exact Or.inl rfl | exact Or.inr rfl)) (pgs_cons (pg_name (i := 7) sc_is_cuts_paper.nd rfl (by first | exact Or.inl rfl | exact Or.inr rfl)) pgs_nil)))))
  (pss_cons (ps_if (PW.pt (pw_or (pt_not (pt_val (pe_call (G_are_cuts T) (hr.mono (by decide)) (by rfl) T.g_are_cuts T.F_are_cuts.kp T.b_are_cuts .nil pass0 (pa_cons (pv 0) (pa_cons (pv 1) (pa_cons (pv 3) (pa_cons (pv 6) pa_nil))))))) (pw_or1 (pt_cmpR op_ne (pe_call (G_cost_of T) (hr.mono (by decide)) (by rfl) T.g_cost_of T.F_cost_of.kp T.b_cost_of .nil pass0 (pa_cons (pv 0) (pa_cons (pv 2) (pa_cons (pv 3) (pa_cons (pv 6) pa_nil))))) (pv 5) (nomark _)))))
    (pss_one (ps_ret pe_bl))
    pss_nil)
  (pss_cons (ps_if (PW.pt (pw_or (pt_not (pt_val (pe_callB (k_isi K rfl) (by rfl) T.n_isinstance (by decide +kernel) (pa_cons (pv 7) (pa_cons (pe_bltn (v := .ty "list") (by rfl) T.n_list (by decide +kernel) rfl) pa_nil))))) (pw_or1 (pt_cmpR op_ne (pe_callB (k_len K rfl) (by rfl) T.n_len (by decide +kernel) (pa_cons (pv 7) pa_nil)) (pe_op op_add (pe_callB (k_len K rfl) (by rfl) T.n_len (by decide +kernel) (pa_cons (pv 0) pa_nil)) pe_int) (nomark _)))))
    (pss_one (ps_ret pe_bl))
    pss_nil)
  (pss_cons (ps_if (PW.pt (pw_or (pt_cmpR (k_neD K rfl hr.units) (pe_lc (own := [("one", 8)]) (g := gName 8) (by rfl) sc_is_cuts_paper.nd (k_piL K rfl (pv 7)) (blkOk_by (own := [("one", 8)]) (N := N_is_cuts_paper) (sc := defScope s_is_cuts_paper) (by decide +kernel)) (fun _ _ _ _ _ => (pg_name (i := 8) sc_is_cuts_paper.nd rfl (by first | exact Or.inl rfl | exact Or.inr rfl))) (fun _ _ _ _ _ => (pts_one (pt_not (pt_val (pe_call (G_is_whole T) (hr.mono (by decide)) (by rfl) T.g_is_whole T.F_is_whole.kp T.b_is_whole .nil pass0 (pa_cons (pv 8) pa_nil)))))) (fun _ _ _ _ _ => (pv 8))) (pe_lst pa_nil) (nomark _)) (pw_or1 (pt_cmpR op_ne (pe_op op_sub (pe_ix (k_ixL K rfl) (pv 7) (pe_un un_neg pe_int) (fun _ _ => rfl)) (pe_ix (k_ixL K rfl) (pv 7) pe_int (fun _ _ => rfl))) (pv 5) (nomark _)))))
    (pss_one (ps_ret pe_bl))
    pss_nil)
  (pss_one (ps_ret (pe_call (G_prices_hold T) (hr.mono (by decide)) (by rfl) T.g_prices_hold T.F_prices_hold.kp T.b_prices_hold .nil pass0 (pa_cons (pv 0) (pa_cons (pv 1) (pa_cons (pv 2) (pa_cons (pv 3) (pa_cons (pv 7) pa_nil)))))))))))))), ?_⟩
  have hlen : (ns.map V.int).length = ns.length := List.length_map ..
  have hl : ns.length ≤ 1000 := hA.2.2
  refine ⟨_, rfl, _, rfl, _, rfl, _, rfl, a, ns, few, cost, bits, rfl, hA, hf, hc, fun H1 s1 => ?_⟩
  have hA1 := hA.same s1
  have hp1 := hp.same s1
  cases pd with
  | none =>
    rcases hp1 with ⟨T1, ty, hT⟩ | ⟨va, xs, rfl, hva, hx3⟩
    · exact ⟨_, rfl, _, _, _, _, false, rfl, .ty _, ty, kit_ty hT, false, rfl, iteT (q _ _ s1 ⟨(fun z => by cases z), fun z => z.elim⟩)⟩
    · refine ⟨_, rfl, _, _, _, _, true, rfl, .ty _, .base (.tup hva), kit_ty (by decide +kernel), true, rfl, iteF ?_⟩
      exact ⟨_, rfl, va, _, rfl, .inr (.inl (.inl hva)), rfl, _, rfl, iteENT (by omega) (q _ _ s1 ⟨(fun z => by cases z), fun z => z.elim⟩)⟩
  | some pq =>
    obtain ⟨t, co, po⟩ := pq
    obtain ⟨va, cv, pv, rfl, hva, hcv, hpv⟩ := hp1
    refine ⟨_, rfl, _, _, _, _, true, rfl, .ty _, .base (.tup hva), kit_ty (by decide +kernel), true, rfl, iteF ?_⟩
    refine ⟨_, rfl, va, _, rfl, .inr (.inl (.inl hva)), rfl, _, rfl, iteENF rfl ?_⟩
    refine ⟨_, rfl, va, _, _, _, rfl, rfl, .inl (.inl hva), atI_nat (j := 0) rfl, _, rfl, .inl ⟨t, rfl, true, rfl, iteF ?_⟩⟩
    refine ⟨_, rfl, va, _, rfl, .inl (.inl hva), rfl, _, _, rfl, _, _, rfl, _, _, rfl, rfl, ?_⟩
    refine ⟨_, rfl, _, rfl, _, rfl, _, rfl, a, ns, few, cost, bits, cv, co, rfl, hA1, hcv, hf, fun H2 s2 => ⟨_, rfl, ?_⟩⟩
    have s02 := s1.trans s2
    have hA2 := hA1.same s2
    have hcv2 := hcv.same s2
    have hpv2 := hpv.same s2
    have no : ¬ Paper bits few cost ns (some (t, co, po)) → ∀ H', Same H2 H' → Q (.bl false) H' := fun n H' s' => q H' false (s02.trans s') ⟨(fun z => by cases z), fun z => absurd z n⟩
    cases co with
    | none => exact iteT (no (fun z => by cases po <;> exact z) _ (Same.refl _))
    | some cs =>
    rw [cutB_some]
    cases hcc : ccF bits few cost ns 0 0 cs with
    | none => exact iteT (no (fun z => by cases po with
      | none => exact z
      | some ps => have := z.1; rw [hcc] at this; cases this) _ (Same.refl _))
    | some pt =>
    obtain ⟨p, t0⟩ := pt
    dsimp only
    by_cases cp : p = ns.length
    rotate_left
    · rw [decide_eq_false cp]
      exact iteT (no (fun z => by cases po with
      | none => exact z
      | some ps => have := z.1; rw [hcc] at this; cases this; exact cp rfl) _ (Same.refl _))
    subst cp
    rw [decide_eq_true rfl]
    refine iteF ?_
    refine ⟨_, rfl, _, rfl, _, rfl, _, rfl, a, ns, few, cost, bits, cv, cs, _, t0, rfl, hA2, hcv2, hcc, hbt, fun H3 s3 => ?_⟩
    refine ⟨_, rfl, rfl, _, rfl, ?_⟩
    by_cases ct : t0 = t
    rotate_left
    · exact iteENT ct (no (fun z => by cases po with
      | none => exact z
      | some ps => have := z.1; rw [hcc] at this; cases this; exact ct rfl) _ s3)
    subst ct
    refine iteENF rfl ?_
    have hpv3 := hpv2.same s3
    cases po with
    | none =>
      obtain ⟨T1, ty, hT⟩ := hpv3
      exact ⟨_, rfl, _, _, _, _, false, rfl, .ty _, ty, kit_ty hT, false, rfl, iteT (no (fun z => z) _ s3)⟩
    | some ps =>
    obtain ⟨pp, rfl, hpp, hpl⟩ := hpv3
    have hA3 := hA2.same s3
    refine ⟨_, rfl, _, _, _, _, true, rfl, .ty _, .base (.lst hpp), kit_ty (by decide +kernel), true, rfl, iteF ?_⟩
    refine ⟨_, rfl, pp, _, rfl, .inl (.inl (.inl hpp)), _, rfl, a, _, rfl, .inl hA3.sq, _, _, rfl, rfl, rfl, _, rfl, ?_⟩
    rw [List.length_map, hlen]
    by_cases cl : ps.length = ns.length + 1
    rotate_left
    · exact iteENT (fun z => cl (by omega)) (no (fun z => cl z.2.1) _ s3)
    refine iteENF (by omega) ?_
    refine ⟨_, rfl, pp, rfl, ⟨_, .inl (.inl hpp)⟩, fun D nD => ?_⟩
    refine lc_selL (K := K) (a := pp) (xs := ps.map V.int) (ps.map fun _ => none) nD (.inl (.inl hpp)) (by rw [List.length_map, List.length_map]) (by rw [List.length_map, sizeLine_eq]; omega) (fun x => rfl) ?_ ?_
    · intro i y o H' hy ho s' Qt qt
      obtain ⟨n, hn, rfl⟩ := int_at hy
      rw [List.getElem?_map, hn] at ho
      cases ho
      exact ⟨_, rfl, _, rfl, .inl ⟨n, rfl, true, rfl, iteF (qt _ (Same.refl _))⟩⟩
    intro H4 s4 hD
    have en : (ps.map fun _ => (none : Option V)).filterMap id = ([] : List Int).map V.int := by
      clear hpl hpp cl hD no q hp hpv hpv2
      induction ps with
      | nil => rfl
      | cons x r ih => exact ih
    rw [en] at hD
    refine ⟨(by show 0 ≤ sizeLine; decide), fun z nz => ?_⟩
    obtain ⟨H5, e5, s5, hz⟩ := fresh (.lst ([] : List V)) nz
    rw [e5]
    refine neD_lst (ms := []) (.inl (.inl (s5 _ _ hD))) (.inl (.inl hz)) ⟨_, rfl, ?_⟩
    rw [decide_eq_true rfl]
    refine iteF ?_
    have hpp5 := s5 _ _ (s4 _ _ hpp)
    have hlast : atI (ps.map V.int) (-1) = some (.int (ps.getD ns.length 0)) := by
      obtain ⟨i, x, e⟩ : ∃ i x, ps = i ++ [x] := ⟨ps.dropLast, ps.getLast (fun z => by rw [z] at cl; cases cl), (List.dropLast_concat_getLast _).symm⟩
      have el : i.length = ns.length := by rw [e, List.length_append] at cl; exact Nat.succ.inj cl
      rw [e, List.map_append]
      refine (atI_last _ _).trans ?_
      rw [List.getD_eq_getElem?_getD, List.getElem?_append_right (by omega), el, Nat.sub_self]
      rfl
    have hfst : atI (ps.map V.int) 0 = some (.int (ps.getD 0 0)) := atI_nat (j := 0) (by
      rw [List.getElem?_map, List.getD_eq_getElem?_getD, List.getElem?_eq_getElem (by omega)]
      rfl)
    refine ⟨_, rfl, _, rfl, pp, _, _, _, rfl, rfl, .inl (.inl hpp5), hlast, _, rfl, pp, _, _, _, rfl, rfl, .inl (.inl hpp5), hfst, _, _, rfl, rfl, _, rfl, rfl, _, rfl, ?_⟩
    by_cases cd : ps.getD ns.length 0 - ps.getD 0 0 = t0
    rotate_left
    · exact iteENT cd (no (fun z => cd z.2.2.1) _ (s3.trans (s4.trans s5)))
    refine iteENF cd ?_
    refine ⟨_, rfl, _, rfl, _, rfl, _, rfl, _, rfl, a, pp, ns, ps, few, cost, bits, rfl, hA3.same (s4.trans s5), hh, hbt, hf, hpp5, cl, fun H6 r s6 hr => ?_⟩
    exact q _ _ (s02.trans (s3.trans ((s4.trans s5).trans s6))) (hr.trans ⟨fun h => ⟨hcc, cl, cd, h⟩, fun h => h.2.2.2⟩)
end
end My

namespace My
open PySem PySem.Spec PyProof.Rows L2 Pre
/-! ### least_stretch, how_many_cuts -/
theorem leastP_nil : leastP [] = 0 := by
  obtain ⟨w, _, e⟩ := leastP_at []
  rw [e]
  rfl
theorem least_told {ns : List Int} {xs : List V} (h : LeastV ns xs) : ∃ x1 x2, xs = [.int (leastP ns), x1, x2] := by
  rcases h with ⟨rfl, rfl⟩ | ⟨_, m, f, l, hm, rfl⟩
  · exact ⟨_, _, by rw [leastP_nil]⟩
  · exact ⟨_, _, by rw [leastP_is hm]⟩
theorem eqD_int {K : PySem.W.Frag} {H : Hp} {i j : Int} {Q : V → Hp → Prop} (q : Q (.bl (decide (i = j))) H) : rEqD K (.int i) (.int j) H Q := by
  refine ⟨.int i, .int j, .int i, .int j, rfl, rfl, ?_⟩
  have e : PyData.eqv (.int i) (.int j) = decide (i = j) := by
    show (i == j) = decide (i = j)
    by_cases h : i = j
    · subst h; simp
    · simp [h]
  rw [e]
  exact q
theorem stat_pos (l : List Int) : 0 < (statOf l).2 ↔ ∃ m, (statOf l).1 = some m := by
  unfold statOf
  by_cases h : l = []
  · rw [if_pos h]
    exact ⟨fun z => absurd z (Nat.lt_irrefl 0), fun ⟨_, z⟩ => by cases z⟩
  · rw [if_neg h]
    exact ⟨fun _ => ⟨_, rfl⟩, fun _ => List.count_pos_iff.mpr (minI_mem' h).1⟩
/-- costs of all lists whose last stretch begins ahead of j -/
def costB (bits : Option Nat) (few : Nat) (cost : Int) (ns : List Int) (p j : Nat) : List Int := (List.range j).flatMap fun b => (costs bits few cost ns b).map (· + (cost + strP bits (slc ns b p)))
theorem costB_succ {bits : Option Nat} {few : Nat} {cost : Int} {ns : List Int} {p j : Nat} : statOf (costB bits few cost ns p (j + 1)) = statStep (statOf (costB bits few cost ns p j)) (statOf (costs bits few cost ns j)) (cost + strP bits (slc ns j p)) := by
  unfold costB
  rw [List.range_succ, List.flatMap_append, List.flatMap_cons, List.flatMap_nil, List.append_nil, stat_step]
theorem costB_all {bits : Option Nat} {few : Nat} {cost : Int} {ns : List Int} (hf : 1 ≤ few) {p : Nat} (hp : 0 < p) : statOf (costB bits few cost ns p (p + 1 - few)) = statOf (costs bits few cost ns p) := (stat_perm (costs_perm hf hp)).symm
theorem costs_zero {bits : Option Nat} {few : Nat} {cost : Int} {ns : List Int} (hf : 1 ≤ few) : costs bits few cost ns 0 = [0] := by
  have e1 : lenF few 0 = [[]] := by
    show ([[]] : List (List Nat)) ++ (List.range (0 + 1 - few)).flatMap _ = _
    rw [show 0 + 1 - few = 0 by omega]
    rfl
  unfold costs
  rw [e1]
  rfl
theorem cut_slc' (ns : List Int) {b p : Nat} (h : b ≤ p) : cutV (ns.map V.int) (some (b : Int)) (some (p : Int)) = (slc ns b p).map V.int := by
  have := cut_slc ns b (l := ((p - b : Nat) : Int)) (Int.natCast_nonneg _)
  rw [Int.toNat_natCast, show (b : Int) + ((p - b : Nat) : Int) = (p : Int) by omega, show b + (p - b) = p by omega] at this
  exact this
/-- least costs and how many have them, in a heap -/
def StatL (H : Hp) (tp : Addr) (L : List (Option Int × Nat)) : Prop := ∃ vs : List V, H tp = some (.lst vs) ∧ vs.length = L.length ∧ ∀ (i : Nat) (v : V) (x : Option Int × Nat), vs[i]? = some v → L[i]? = some x → ∃ t, v = .ref t ∧ H t = some (.tup [totV x.1, .int (x.2 : Int)])
local macro_rules | `(tactic| walk_at "go") => `(tactic| repeat (first | (with_reducible first | refine iteT ?_ | refine iteF ?_ | refine iteNtt ?_ | refine iteNff ?_ | refine iteET (by omega) ?_ | refine iteEF (by omega) ?_ | refine iteENT (by omega) ?_ | refine iteENF (by omega) ?_ | refine iteDT (by omega) ?_ | refine iteDF (by omega) ?_ | refine iteNT (by omega) ?_ | refine iteNF (by omega) ?_) | refine ⟨_, rfl, ?_⟩ | refine ⟨_, _, rfl, rfl, ?_⟩ | refine ⟨_, _, rfl, ?_⟩ | refine ⟨rfl, ?_⟩ | refine .inl ⟨_, rfl, ?_⟩ | refine .inr ⟨_, rfl, ?_⟩))
local macro_rules | `(tactic| walk_at "b") => `(tactic| try dsimp (config := { proj := false, iota := false, eta := false, zeta := false }) only)
section
variable {P : Program} {w : World} {K : PySem.W.Frag} {mg : Str → Option Value} {base : Heap}
def sp_least_stretch (K : PySem.W.Frag) : Sp := fun vs H Q _ => ∃ (a : Addr) (ns : List Int) (bits : Option Nat), vs = [.ref a, optV bits] ∧ FoldsAt K H a ns ∧ bits.getD 0 ≤ 1000 ∧ ∀ H', Same H H' → Q (.int (strP bits ns)) H'
theorem G_least_stretch (T : Top K mg) : FnOk P w K mg base CX0 3 T.f_least_stretch T.fd_least_stretch ["folds", "bits"] (sp_least_stretch K) := by
  refine T.F_least_stretch.ok sc_least_stretch (fun vs H Q E h => by obtain ⟨a, ns, bits, rfl, _⟩ := h; rfl) (fun cdv A outer s H vs Q E hr h => ?_)
  obtain ⟨a, ns, bits, rfl, hA, hbt, q⟩ := h
  refine ⟨_, PSs.nox (pss_cons (ps_set (i := 2) sc_least_stretch.nd rfl (by first | exact Or.inl rfl | exact Or.inr rfl) (pe_ix (k_ixT K rfl) (pe_call (G_told_least T) (hr.mono (by decide)) (by rfl) T.g_told_least T.F_told_least.kp T.b_told_least .nil pass0 (pa_cons (pv 0) pa_nil)) pe_int (fun _ _ => rfl)))
  (pss_cons (ps_if (PW.pt (pw_and (pt_cmpR op_notN (pv 1) pe_non (nomark _)) (pw_and1 (pt_cmpR (k_eqD K rfl hr.units) (pe_lc (own := [("unit", 3)]) (g := gName 3) (by rfl) sc_least_stretch.nd (k_piL K rfl (pv 0)) (blkOk_by (own := [("unit", 3)]) (N := N_least_stretch) (sc := defScope s_least_stretch) (by decide +kernel)) (fun _ _ _ _ _ => (pg_name (i := 3) sc_least_stretch.nd rfl (by first | exact Or.inl rfl | exact Or.inr rfl))) (fun _ _ _ _ _ => (pts_one (pt_cmpR op_gt (pe_op op_shr (pv 3) (pv 1)) pe_int (nomark _)))) (fun _ _ _ _ _ => (pv 3))) (pe_lst pa_nil) (nomark _)))))
    (pss_one (ps_ret (pe_callB (call_min2 rfl) (by rfl) T.n_min (by decide +kernel) (pa_cons (pv 2) (pa_cons (pe_op op_mul (pv 1) (pe_callB (k_len K rfl) (by rfl) T.n_len (by decide +kernel) (pa_cons (pv 0) pa_nil))) pa_nil)))))
    pss_nil)
  (pss_one (ps_ret (pv 2))))), ?_⟩
  have hF := hA.2.1
  have hl : ns.length ≤ 1000 := hA.2.2
  refine ⟨_, rfl, a, ns, rfl, hA, fun H1 p xs s1 hp hx => ?_⟩
  obtain ⟨x1, x2, rfl⟩ := least_told hx
  refine ⟨p, _, _, _, rfl, rfl, .inl (.inl hp), atI_nat (j := 0) rfl, ?_⟩
  refine ⟨_, rfl, rfl, _, rfl, ?_⟩
  have hA1 := hA.same s1
  cases bits with
  | none => exact iteF ⟨_, rfl, q _ s1⟩
  | some pb =>
    refine iteT ?_
    have hpb : pb ≤ 1000 := hbt
    refine ⟨_, rfl, a, rfl, ⟨_, hA1.sq⟩, fun D nD => ?_⟩
    refine lc_selL (K := K) (a := a) (xs := ns.map V.int) (ns.map fun n => if decide (0 < n / 2 ^ pb) = true then some (V.int n) else none) nD hA1.sq (by rw [List.length_map, List.length_map]) (by rw [List.length_map, sizeLine_eq]; omega) (fun x => rfl) ?_ ?_
    · intro i y o H' hy ho s' Qt qt
      obtain ⟨n, hn, rfl⟩ := int_at hy
      rw [List.getElem?_map, hn] at ho
      have eo := Option.some.inj ho
      dsimp only at eo
      refine ⟨_, rfl, _, rfl, _, _, rfl, rfl, Int.natCast_nonneg _, _, _, rfl, rfl, _, rfl, ?_⟩
      by_cases c3 : 0 < n / 2 ^ pb
      · rw [if_pos (decide_eq_true c3)] at eo
        subst eo
        exact iteDT c3 ⟨_, rfl, qt _ (Same.refl _)⟩
      · rw [if_neg (by rw [decide_eq_false c3]; decide)] at eo
        subst eo
        exact iteDF c3 (qt _ (Same.refl _))
    intro HC sC hD
    rw [sel_int ns fun n => decide (0 < n / 2 ^ pb)] at hD
    refine ⟨(by show 0 ≤ sizeLine; decide), fun z nz => ?_⟩
    obtain ⟨HD, eD, sD, hz⟩ := fresh (.lst ([] : List V)) nz
    rw [eD]
    have sall := s1.trans (sC.trans sD)
    refine eqD_lst (ms := []) (.inl (.inl (sD _ _ hD))) (.inl (.inl hz)) ⟨_, rfl, ?_⟩
    have hpl := plain_filter (pb := pb) hF.nn
    unfold strP at q
    dsimp only at q
    by_cases c4 : plainB pb ns = true
    · rw [decide_eq_true (hpl.mpr c4)]
      rw [if_pos c4] at q
      refine iteT ?_
      refine ⟨_, rfl, _, rfl, _, rfl, a, _, rfl, .inl (sall.seq hA.sq), _, _, rfl, rfl, .inl ⟨by omega, by omega⟩, _, _, rfl, ?_⟩
      rw [List.length_map]
      have em : (if (pb : Int) * (ns.length : Nat) < leastP ns then (pb : Int) * (ns.length : Nat) else leastP ns) = min (leastP ns) ((pb : Int) * (ns.length : Nat)) := by
        split <;> omega
      rw [em]
      exact q _ sall
    · rw [decide_eq_false fun z => c4 (hpl.mp z)]
      rw [if_neg c4] at q
      exact iteF ⟨_, rfl, q _ sall⟩
def sp_how_many_cuts (K : PySem.W.Frag) : Sp := fun vs H Q _ => ∃ (a : Addr) (ns : List Int) (few : Nat) (cost : Int) (bits : Option Nat), vs = [.ref a, .int few, .int cost, optV bits] ∧ FoldsAt K H a ns ∧ bits.getD 0 ≤ 1000 ∧ 1 ≤ few ∧ few ≤ 1000 ∧ 0 ≤ cost ∧ ∀ H', Same H H' → Q (.int ((statOf (costs bits few cost ns ns.length)).2 : Nat)) H'
theorem G_how_many_cuts (T : Top K mg) : FnOk P w K mg base CX0 5 T.f_how_many_cuts T.fd_how_many_cuts ["folds", "few", "cost", "bits"] (sp_how_many_cuts K) := by
  refine T.F_how_many_cuts.ok sc_how_many_cuts (fun vs H Q E h => by obtain ⟨a, ns, few, cost, bits, rfl, _⟩ := h; rfl) (fun cdv A outer s H vs Q E hr h => ?_)
  obtain ⟨a, ns, few, cost, bits, rfl, hA, hbt, hf, hf2, hc, q⟩ := h
  refine ⟨_, PSs.nox (pss_cons (ps_expr (pe_call (G_check_cutting T) (hr.mono (by decide)) (by rfl) T.g_check_cutting T.F_check_cutting.kp T.b_check_cutting .nil pass0 (pa_cons (pv 0) (pa_cons (pv 1) (pa_cons (pv 2) (pa_cons (pv 3) pa_nil))))))
  (pss_cons (ps_set (i := 4) sc_how_many_cuts.nd rfl (by first | exact Or.inl rfl | exact Or.inr rfl) (pe_lst (pa_cons (pe_tup (pa_cons pe_int (pa_cons pe_int pa_nil))) pa_nil)))
  (pss_cons (ps_for PassesOwn.never rfl (pi_range2 (by rfl) T.n_range (pa_cons pe_int (pa_cons (pe_op op_add (pe_callB (k_len K rfl) (by rfl) T.n_len (by decide +kernel) (pa_cons (pv 0) pa_nil)) pe_int) pa_nil))) (pg_name (i := 5) sc_how_many_cuts.nd rfl (by first | exact Or.inl rfl | exact Or.inr rfl))
    (pss_cons (ps_asg (pe_tup (pa_cons pe_non (pa_cons pe_int pa_nil))) (k_pgT K rfl (by rfl) (pgs_cons (pg_name (i := 7) sc_how_many_cuts.nd rfl (by first | exact Or.inl rfl | exact Or.inr rfl)) (pgs_cons (pg_name (i := 8) sc_how_many_cuts.nd rfl (by first | exact Or.inl rfl | exact Or.inr rfl)) pgs_nil))))
  (pss_cons (ps_for PassesOwn.never rfl (pi_range1 (by rfl) T.n_range (pa_cons (pe_op op_add (pe_op op_sub (pv 5) (pv 1)) pe_int) pa_nil)) (pg_name (i := 6) sc_how_many_cuts.nd rfl (by first | exact Or.inl rfl | exact Or.inr rfl))
    (pss_one (ps_if (pt_cmpR op_gt (pe_ix (k_ixT K rfl) (pe_ix (k_ixL K rfl) (pv 4) (pv 6) (fun _ _ => rfl)) pe_int (fun _ _ => rfl)) pe_int (nomark _))
    (pss_cons (ps_set (i := 9) sc_how_many_cuts.nd rfl (by first | exact Or.inl rfl | exact Or.inr rfl) (pe_op op_add (pe_op op_add (pe_ix (k_ixT K rfl) (pe_ix (k_ixL K rfl) (pv 4) (pv 6) (fun _ _ => rfl)) pe_int (fun _ _ => rfl)) (pv 2)) (pe_call (G_least_stretch T) (hr.mono (by decide)) (by rfl) T.g_least_stretch T.F_least_stretch.kp T.b_least_stretch .nil pass0 (pa_cons (pe_slice (k_slL K rfl) (pv 0) (po_some (pv 6)) (po_some (pv 5))) (pa_cons (pv 3) pa_nil)))))
  (pss_cons (ps_if (PW.pt (pw_or (pt_cmpR op_isN (pv 7) pe_non (nomark _)) (pw_or1 (pt_cmpR op_lt (pv 9) (pv 7) (nomark _)))))
    (pss_one (ps_par (by rfl) sc_how_many_cuts.nd (i := 7) (j := 8) rfl rfl (by decide) rfl rfl (pa_cons (pv 9) (pa_cons pe_int pa_nil)) (by rfl)))
    pss_nil)
  (pss_one (ps_set (i := 8) sc_how_many_cuts.nd rfl (by first | exact Or.inl rfl | exact Or.inr rfl) (pe_op op_add (pv 8) (pe_ifExp (pt_cmpR (k_eqD K rfl hr.units) (pv 9) (pv 7) (nomark _)) (pe_ix (k_ixT K rfl) (pe_ix (k_ixL K rfl) (pv 4) (pv 6) (fun _ _ => rfl)) pe_int (fun _ _ => rfl)) pe_int))))))
    pss_nil)))
  (pss_one (ps_expr (pe_bm PySem.F.plainAttrs_list PySem.F.slot_list_append PySem.F.type_list_append mt_append (pv 4) (pa_cons (pe_tup (pa_cons (pv 7) (pa_cons (pv 8) pa_nil))) pa_nil)))))))
  (pss_one (ps_ret (pe_ix (k_ixT K rfl) (pe_ix (k_ixL K rfl) (pv 4) (pe_un un_neg pe_int) (fun _ _ => rfl)) pe_int (fun _ _ => rfl))))))), ?_⟩
  have hlen : (ns.map V.int).length = ns.length := List.length_map ..
  have hl : ns.length ≤ 1000 := hA.2.2
  have hF := hA.2.1
  refine ⟨_, rfl, _, rfl, _, rfl, _, rfl, a, ns, few, cost, bits, rfl, hA, hf, hc, fun H1 s1 => ?_⟩
  refine ⟨(by show 2 ≤ sizeLine; decide), fun t0 nt0 => ?_⟩
  obtain ⟨H2, e2, s2, ht0⟩ := fresh (.tup [V.int 0, .int 1]) nt0
  rw [e2]
  refine ⟨(by show 1 ≤ sizeLine; decide), fun tp ntp => ?_⟩
  obtain ⟨H3, e3, s3, htp⟩ := fresh (.lst [V.ref t0]) ntp
  rw [e3]
  have s02 := s1.trans s2
  have s03 := s02.trans s3
  have ntpH : H2 tp = none := ntp
  obtain ⟨ST, hST⟩ : ∃ ST : Nat → Option Int × Nat, ST = fun b => statOf (costs bits few cost ns b) := ⟨_, rfl⟩
  have ST0 : ST 0 = (some 0, 1) := by rw [hST]; dsimp only; rw [costs_zero hf]; rfl
  have STn : ((statOf (costs bits few cost ns ns.length)).2) = (ST ns.length).2 := by rw [hST]
  rw [STn] at q
  refine ⟨_, rfl, a, _, rfl, .inl (s03.seq hA.sq), _, _, rfl, rfl, ?_⟩
  have en : (((ns.length + 1 : Nat) : Int) - 1).toNat = ns.length := by omega
  refine ⟨1, ((ns.length + 1 : Nat) : Int), by rw [hlen]; rfl, ⟨by decide, by decide, by omega, by omega⟩, ?_⟩
  rw [en]
  refine for_range (lo := 1) (n := ns.length) (fun i σ HA => ∃ v5 v6 v7 v8 v9 : Option V, σ = [some (.ref a), some (.int few), some (.int cost), some (optV bits), some (.ref tp), v5, v6, v7, v8, v9] ∧ Same H2 HA ∧ StatL HA tp ((List.range (i + 1)).map ST))
    ⟨none, none, none, none, none, rfl, s3, [.ref t0], htp, rfl, fun i v x h1 h2 => ?_⟩ ?_ ?_
  · cases i with
    | zero =>
      cases h1
      rw [List.getElem?_map] at h2
      cases h2
      exact ⟨t0, rfl, by rw [ST0]; exact s3 _ _ ht0⟩
    | succ i => simp at h1
  · rintro i σ HA hi ⟨v5, v6, v7, v8, v9, rfl, sA, hT⟩
    rw [show (1 : Int) + (i : Int) = ((i + 1 : Nat) : Int) by omega]
    refine ⟨(by show 2 ≤ sizeLine; decide), fun z nz => ?_⟩
    obtain ⟨H4, e4, s4, hz⟩ := fresh (.tup [V.non, .int 0]) nz
    rw [e4]
    refine ⟨z, _, rfl, .inl (.inl hz), rfl, _, _, rfl, _, _, rfl, rfl, ?_⟩
    refine ⟨_, rfl, _, rfl, _, _, rfl, rfl, _, _, rfl, rfl, _, rfl, by omega, by omega, ?_⟩
    have er : ((((i + 1 : Nat) : Int) - (few : Int)) + 1).toNat = i + 1 + 1 - few := by omega
    rw [er]
    obtain ⟨vs, hvs, hvl, hva⟩ := id hT
    rw [List.length_map, List.length_range] at hvl
    refine for_range (lo := 0) (n := i + 1 + 1 - few) (fun j σ HB => ∃ v6 v9 : Option V, σ = [some (.ref a), some (.int few), some (.int cost), some (optV bits), some (.ref tp), some (.int ((i + 1 : Nat) : Int)), v6, some (totV (statOf (costB bits few cost ns (i + 1) j)).1), some (.int ((statOf (costB bits few cost ns (i + 1) j)).2 : Nat)), v9] ∧ Same HA HB)
      ⟨v6, v9, rfl, s4⟩ ?_ ?_
    · rintro j σ HB hj ⟨w6, w9, rfl, sB⟩
      rw [Int.zero_add, costB_succ]
      have hj' : j < vs.length := by omega
      obtain ⟨v, hv⟩ : ∃ v, vs[j]? = some v := ⟨_, List.getElem?_eq_getElem hj'⟩
      obtain ⟨t, rfl, ht⟩ := hva j v (ST j) hv (by rw [List.getElem?_map, List.getElem?_range (by omega)]; rfl)
      have hvsB := sB _ _ hvs
      have htB := sB _ _ ht
      have sAB := sA.trans sB
      refine ⟨_, rfl, _, rfl, tp, _, _, _, rfl, rfl, .inl (.inl hvsB), atI_nat hv, t, _, _, _, rfl, rfl, .inl (.inl htB), atI_nat (j := 1) rfl, _, _, rfl, rfl, _, rfl, ?_⟩
      have hpos := stat_pos (costs bits few cost ns j)
      rw [show statOf (costs bits few cost ns j) = ST j by rw [hST]] at hpos ⊢
      generalize statOf (costB bits few cost ns (i + 1) j) = X at *
      generalize ST j = Y at *
      obtain ⟨y1, y2⟩ := Y
      obtain ⟨x1, x2⟩ := X
      dsimp only at hpos ht htB ⊢
      by_cases cy : 0 < y2
      rotate_left
      · have y0 : y1 = none := by
          cases y1 with
          | none => rfl
          | some m => exact absurd (hpos.mpr ⟨m, rfl⟩) cy
        subst y0
        rw [decide_eq_false (show ¬ (0 : Int) < (y2 : Nat) by omega)]
        exact iteF ⟨_, _, rfl, sB⟩
      obtain ⟨m, rfl⟩ := hpos.mp cy
      rw [decide_eq_true (show (0 : Int) < (y2 : Nat) by omega)]
      refine iteT ?_
      refine ⟨_, rfl, _, rfl, tp, _, _, _, rfl, rfl, .inl (.inl hvsB), atI_nat hv, t, _, _, _, rfl, rfl, .inl (.inl htB), atI_nat (j := 0) rfl, _, rfl, _, _, rfl, rfl, _, rfl, _, rfl, _, rfl, _, rfl, _, rfl, a, _, rfl, (s02.trans sAB).seq hA.sq, fun sp nsp => ?_⟩
      rw [cut_slc' ns (show j ≤ i + 1 by omega)]
      obtain ⟨HC, eC, sC, hsp⟩ := fresh (.lst ((slc ns j (i + 1)).map V.int)) nsp
      rw [eC]
      have hsl := slc_le (ns := ns) (b := j) (p := i + 1)
      have hFs : Folds (slc ns j (i + 1)) := fun n hn => hF n (slc_sub hn)
      refine ⟨_, rfl, sp, _, bits, rfl, ⟨.inl hsp, hFs, by omega⟩, hbt, fun HD sD => ?_⟩
      refine ⟨_, _, rfl, rfl, ?_⟩
      dsimp only
      rw [Int.add_assoc]
      generalize cost + strP bits (slc ns j (i + 1)) = c at *
      have sBD := sC.trans sD
      have hvsD := sBD _ _ hvsB
      have htD := sBD _ _ htB
      refine ifs_join (fun σ' H' => ∃ v6 : Option V, σ' = [some (.ref a), some (.int few), some (.int cost), some (optV bits), some (.ref tp), some (.int ((i + 1 : Nat) : Int)), some (.int (j : Nat)), some (totV (match x1 with | none => some (m + c) | some v => if m + c < v then some (m + c) else some v)), some (.int ((match x1 with | none => 0 | some v => if m + c < v then 0 else x2 : Nat) : Int)), some (.int (m + c))] ∧ H' = HD) (fun nx hnx => ?_) ?_
      · refine ⟨_, rfl, rfl, _, rfl, ?_⟩
        cases x1 with
        | none =>
          refine iteT ?_
          exact ⟨_, rfl, _, _, rfl, hnx _ _ ⟨none, rfl, rfl⟩⟩
        | some v =>
          refine iteF ?_
          refine ⟨_, rfl, _, rfl, _, _, rfl, rfl, _, rfl, ?_⟩
          by_cases c1 : m + c < v
          · rw [decide_eq_true c1]
            refine iteT ?_
            refine ⟨_, rfl, _, _, rfl, hnx _ _ ⟨none, ?_, rfl⟩⟩
            dsimp only
            rw [if_pos c1, if_pos c1]
            rfl
          · rw [decide_eq_false c1]
            refine iteF ?_
            refine hnx _ _ ⟨none, ?_, rfl⟩
            dsimp only
            rw [if_neg c1, if_neg c1]
            rfl
      rintro _ HE ⟨_, rfl, rfl⟩
      have sAE := sB.trans sBD
      have rd : atI [totV (some m), V.int (y2 : Int)] 1 = some (.int (y2 : Int)) := atI_nat (j := 1) rfl
      cases x1 with
      | none =>
        refine ⟨_, rfl, _, rfl, _, rfl, eqD_int ⟨_, rfl, ?_⟩⟩
        rw [decide_eq_true rfl]
        refine iteT ?_
        refine ⟨_, rfl, _, rfl, tp, _, _, _, rfl, rfl, .inl (.inl hvsD), atI_nat hv, t, _, _, _, rfl, rfl, .inl (.inl htD), rd, _, _, rfl, rfl, some (.int (j : Nat)), some (.int (m + c)), ?_, sAE⟩
        show [some (V.ref a), some (.int few), some (.int cost), some (optV bits), some (.ref tp), some (.int ((i + 1 : Nat) : Int)), some (.int (j : Nat)), some (.int (m + c)), some (V.int (((0 : Nat) : Int) + (y2 : Int))), some (.int (m + c))] = _
        rw [show ((0 : Nat) : Int) + (y2 : Int) = y2 by omega]
        rfl
      | some v =>
        dsimp only
        by_cases c1 : m + c < v
        · rw [if_pos c1, if_pos c1]
          have es : statStep (some v, x2) (some m, y2) c = (some (m + c), y2) := by
            show (if m + c < v then _ else _) = _
            rw [if_pos c1]
          rw [es]
          refine ⟨_, rfl, _, rfl, _, rfl, eqD_int ⟨_, rfl, ?_⟩⟩
          rw [decide_eq_true rfl]
          refine iteT ?_
          refine ⟨_, rfl, _, rfl, tp, _, _, _, rfl, rfl, .inl (.inl hvsD), atI_nat hv, t, _, _, _, rfl, rfl, .inl (.inl htD), rd, _, _, rfl, rfl, some (.int (j : Nat)), some (.int (m + c)), ?_, sAE⟩
          show [some (V.ref a), some (.int few), some (.int cost), some (optV bits), some (.ref tp), some (.int ((i + 1 : Nat) : Int)), some (.int (j : Nat)), some (.int (m + c)), some (V.int (((0 : Nat) : Int) + (y2 : Int))), some (.int (m + c))] = _
          rw [show ((0 : Nat) : Int) + (y2 : Int) = y2 by omega]
          rfl
        · rw [if_neg c1, if_neg c1]
          refine ⟨_, rfl, _, rfl, _, rfl, eqD_int ⟨_, rfl, ?_⟩⟩
          by_cases c2 : m + c = v
          · have es : statStep (some v, x2) (some m, y2) c = (some v, x2 + y2) := by
              show (if m + c < v then _ else if m + c = v then _ else _) = _
              rw [if_neg c1, if_pos c2]
            rw [es, decide_eq_true c2]
            refine iteT ?_
            refine ⟨_, rfl, _, rfl, tp, _, _, _, rfl, rfl, .inl (.inl hvsD), atI_nat hv, t, _, _, _, rfl, rfl, .inl (.inl htD), rd, _, _, rfl, rfl, some (.int (j : Nat)), some (.int (m + c)), ?_, sAE⟩
            show [some (V.ref a), some (.int few), some (.int cost), some (optV bits), some (.ref tp), some (.int ((i + 1 : Nat) : Int)), some (.int (j : Nat)), some (.int v), some (V.int ((x2 : Int) + (y2 : Int))), some (.int (m + c))] = _
            rw [show (x2 : Int) + (y2 : Int) = ((x2 + y2 : Nat) : Int) by omega]
            rfl
          · have es : statStep (some v, x2) (some m, y2) c = (some v, x2) := by
              show (if m + c < v then _ else if m + c = v then _ else _) = _
              rw [if_neg c1, if_neg c2]
            rw [es, decide_eq_false c2]
            refine iteF ?_
            refine ⟨_, _, rfl, rfl, some (.int (j : Nat)), some (.int (m + c)), ?_, sAE⟩
            show [some (V.ref a), some (.int few), some (.int cost), some (optV bits), some (.ref tp), some (.int ((i + 1 : Nat) : Int)), some (.int (j : Nat)), some (.int v), some (V.int ((x2 : Int) + 0)), some (.int (m + c))] = _
            rw [Int.add_zero]
            rfl
    · rintro σ HB ⟨w6, w9, rfl, sB⟩
      rw [costB_all hf (by omega), show statOf (costs bits few cost ns (i + 1)) = ST (i + 1) by rw [hST]]
      have hvsB := sB _ _ hvs
      refine ⟨_, rfl, .inl ⟨rfl, _, .inl (.inl hvsB)⟩, _, rfl, _, rfl, (by show 2 ≤ sizeLine; decide), fun u nu => ?_⟩
      obtain ⟨HC, eC, sC, hu⟩ := fresh (.tup [totV (ST (i + 1)).1, .int ((ST (i + 1)).2 : Nat)]) nu
      rw [eC]
      have hvsC := sC _ _ hvsB
      have utp : u ≠ tp := fun z => by rw [z, hvsC] at hu; cases hu
      refine ⟨tp, _, _, rfl, rfl, hvsC, by rw [hvl, sizeLine_eq]; omega, ?_⟩
      refine ⟨_, _, _, _, _, rfl, fun b o h => ?_, vs ++ [.ref u], upd_same, by rw [List.length_append, hvl, List.length_map, List.length_range]; rfl, fun l v x h1 h2 => ?_⟩
      · rw [upd_ne fun z => by rw [z, ntpH] at h; cases h]
        exact sC _ _ (sB _ _ (sA _ _ h))
      · rw [List.range_succ, List.map_append] at h2
        by_cases d : l < vs.length
        · rw [List.getElem?_append_left d] at h1
          rw [List.getElem?_append_left (by rw [List.length_map, List.length_range, ← hvl]; exact d)] at h2
          obtain ⟨t', e', ht'⟩ := hva l v x h1 h2
          exact ⟨t', e', by rw [upd_ne fun z => by rw [z, hvs] at ht'; cases ht']; exact sC _ _ (sB _ _ ht')⟩
        · rw [List.getElem?_append_right (by omega)] at h1
          rw [List.getElem?_append_right (by rw [List.length_map, List.length_range, ← hvl]; omega), List.length_map, List.length_range, ← hvl] at h2
          have e : l - vs.length = 0 := by
            have := (List.getElem?_eq_some_iff.mp h1).1
            rw [List.length_singleton] at this
            omega
          rw [e] at h1 h2
          cases h1
          cases h2
          exact ⟨u, rfl, by rw [upd_ne utp, hu, hvl]⟩
  · rintro σ HA ⟨v5, v6, v7, v8, v9, rfl, sA, hT⟩
    obtain ⟨vs, hvs, hvl, hva⟩ := hT
    rw [List.length_map, List.length_range] at hvl
    obtain ⟨v, hv⟩ : ∃ v, vs[ns.length]? = some v := ⟨_, List.getElem?_eq_getElem (by omega)⟩
    obtain ⟨t, rfl, ht⟩ := hva ns.length v (ST ns.length) hv (by rw [List.getElem?_map, List.getElem?_range (by omega)]; rfl)
    have hlast : atI vs (-1) = some (.ref t) := by
      obtain ⟨i, x, e⟩ : ∃ i x, vs = i ++ [x] := ⟨vs.dropLast, vs.getLast (fun z => by rw [z] at hvl; cases hvl), (List.dropLast_concat_getLast _).symm⟩
      have el : i.length = ns.length := by rw [e, List.length_append] at hvl; exact Nat.succ.inj hvl
      rw [e, List.getElem?_append_right (by omega), el, Nat.sub_self] at hv
      cases hv
      rw [e]
      exact atI_last _ _
    refine ⟨_, rfl, _, rfl, tp, _, _, _, rfl, rfl, .inl (.inl hvs), hlast, t, _, _, _, rfl, rfl, .inl (.inl ht), atI_nat (j := 1) rfl, q _ (s02.trans sA)⟩
end
end My

namespace My
open PySem PySem.Spec PyProof.Rows L2 Pre
/-! ### the law's least stretch, its lists of lengths, their costs -/
theorem ge_pow_filter {pb : Nat} {xs : List Int} : xs.filter (fun n => decide ((2 : Int) ^ pb ≤ n)) = [] ↔ plainB pb xs = true := by
  unfold plainB
  rw [List.filter_eq_nil_iff, List.all_eq_true]
  constructor
  · intro a n hn
    have := a n hn
    rw [decide_eq_true_eq] at this
    exact decide_eq_true (by omega)
  · intro a n hn
    have := of_decide_eq_true (a n hn)
    rw [decide_eq_true_eq]
    omega
def LensIn (H0 H : Hp) (p : Addr) (rs : List (List Nat)) : Prop := ∃ as : List Addr, H p = some (.lst (as.map V.ref)) ∧ as.length = rs.length ∧ (∀ (i : Nat) (a : Addr) (r : List Nat), as[i]? = some a → rs[i]? = some r → H a = some (.lst (r.map fun (x : Nat) => V.int (x : Int)))) ∧ H0 p = none ∧ ∀ a ∈ as, H0 a = none
theorem LensIn.app {H0 H : Hp} {p : Addr} {r1 r2 : List (List Nat)} {as bs : List Addr} (h1 : as.length = r1.length) (k1 : ∀ (i : Nat) (a : Addr) (r : List Nat), as[i]? = some a → r1[i]? = some r → H a = some (.lst (r.map fun (x : Nat) => V.int (x : Int))))
    (h2 : bs.length = r2.length) (k2 : ∀ (i : Nat) (a : Addr) (r : List Nat), bs[i]? = some a → r2[i]? = some r → H a = some (.lst (r.map fun (x : Nat) => V.int (x : Int)))) (hp : H p = some (.lst (as.map V.ref ++ bs.map V.ref))) (np : H0 p = none) (na : ∀ a ∈ as, H0 a = none) (nb : ∀ a ∈ bs, H0 a = none) : LensIn H0 H p (r1 ++ r2) := by
  refine ⟨as ++ bs, by rw [hp, List.map_append], by rw [List.length_append, List.length_append, h1, h2], fun i a r ha hr => ?_, np, fun a ha => (List.mem_append.mp ha).elim (na a) (nb a)⟩
  by_cases hi : i < as.length
  · rw [List.getElem?_append_left hi] at ha
    rw [List.getElem?_append_left (by omega)] at hr
    exact k1 i a r ha hr
  · rw [List.getElem?_append_right (by omega)] at ha
    rw [List.getElem?_append_right (by omega), ← h1] at hr
    exact k2 _ a r ha hr
theorem lenF_eq {few : Nat} (hf : 1 ≤ few) (m : Nat) : lenF few m = (if m = 0 then [[]] else []) ++ (List.range (m + 1 - few)).flatMap fun i => (lenF few (m - (few + i))).map fun l => (few + i) :: l := by
  unfold lenF
  show (if m = 0 then [[]] else []) ++ _ = _
  congr 1
  rw [List.flatMap_def, List.flatMap_def]
  congr 1
  refine List.map_congr_left fun i hi => ?_
  have := List.mem_range.mp hi
  rw [lenK_eq hf (f := m) (g := m - (few + i) + 1) (by omega) (by omega)]
theorem lenF_len {few m : Nat} (hf : 1 ≤ few) (hf3 : few ≤ 3) (hm : m ≤ 8) : (lenF few m).length ≤ 128 := by
  have h : ∀ f : Fin 4, ∀ m : Fin 9, 1 ≤ f.val → (lenF f.val m.val).length ≤ 128 := by decide +kernel
  exact h ⟨few, by omega⟩ ⟨m, by omega⟩ hf
theorem len_sum : ∀ {l : List Nat}, (∀ x ∈ l, 1 ≤ x) → l.length ≤ l.sum
  | [], _ => Nat.le_refl 0
  | x :: r, h => by
    have := len_sum fun y hy => h y (List.mem_cons_of_mem _ hy)
    have := h x List.mem_cons_self
    rw [List.length_cons, List.sum_cons]
    omega
theorem lenF_row {few m : Nat} (hf : 1 ≤ few) {r : List Nat} (h : r ∈ lenF few m) : r.length ≤ m ∧ r.sum = m := by
  obtain ⟨h1, h2⟩ := (mem_lenF hf).mp h
  have := len_sum (l := r) fun x hx => by have := h2 x hx; omega
  exact ⟨by omega, h1⟩
/-- the lists that begin with one of the first j lengths -/
def lenP (few m j : Nat) : List (List Nat) := (if m = 0 then [[]] else []) ++ (List.range j).flatMap fun i => (lenF few (m - (few + i))).map fun l => (few + i) :: l
theorem lenP_succ {few m j : Nat} : lenP few m (j + 1) = lenP few m j ++ (lenF few (m - (few + j))).map fun l => (few + j) :: l := by
  unfold lenP
  rw [List.range_succ, List.flatMap_append, List.flatMap_cons, List.flatMap_nil, List.append_nil, List.append_assoc]
theorem lenP_le {few m : Nat} : ∀ {j k : Nat}, j ≤ k → (lenP few m j).length ≤ (lenP few m k).length
  | j, 0, h => by
    obtain rfl : j = 0 := by omega
    exact Nat.le_refl _
  | j, k + 1, h => by
    by_cases c : j = k + 1
    · subst c; exact Nat.le_refl _
    · have := lenP_le (few := few) (m := m) (show j ≤ k by omega)
      rw [lenP_succ, List.length_append]
      omega
theorem lenP_128 {few m j : Nat} (hf : 1 ≤ few) (hf3 : few ≤ 3) (hm : m ≤ 8) (hj : j ≤ m + 1 - few) : (lenP few m j).length ≤ 128 := by
  have h1 := lenP_le (few := few) (m := m) hj
  have h2 : lenP few m (m + 1 - few) = lenF few m := (lenF_eq hf m).symm
  rw [h2] at h1
  have := lenF_len hf hf3 hm
  omega
local macro_rules | `(tactic| walk_at "go") => `(tactic| repeat (first | (with_reducible first | refine iteT ?_ | refine iteF ?_ | refine iteNtt ?_ | refine iteNff ?_ | refine iteET (by omega) ?_ | refine iteEF (by omega) ?_ | refine iteENT (by omega) ?_ | refine iteENF (by omega) ?_ | refine iteDT (by omega) ?_ | refine iteDF (by omega) ?_ | refine iteNT (by omega) ?_ | refine iteNF (by omega) ?_) | refine ⟨_, rfl, ?_⟩ | refine ⟨_, _, rfl, rfl, ?_⟩ | refine ⟨_, _, rfl, ?_⟩ | refine ⟨rfl, ?_⟩ | refine .inl ⟨_, rfl, ?_⟩ | refine .inr ⟨_, rfl, ?_⟩))
local macro_rules | `(tactic| walk_at "b") => `(tactic| try dsimp (config := { proj := false, iota := false, eta := false, zeta := false }) only)
section
variable {P : Program} {w : World} {K : PySem.W.Frag} {mg : Str → Option Value} {base : Heap}
def sp_law_stretch (K : PySem.W.Frag) : Sp := fun vs H Q _ => ∃ (a : Addr) (ns : List Int) (bits : Option Nat), vs = [.ref a, optV bits] ∧ FoldsAt K H a ns ∧ bits.getD 0 ≤ 100 ∧ ∀ H', Same H H' → Q (.int (strP bits ns)) H'
theorem G_law_stretch (T : Top K mg) : FnOk P w K mg base CX0 2 T.f_law_stretch T.fd_law_stretch ["_law_folds", "_law_bits"] (sp_law_stretch K) := by
  refine T.F_law_stretch.ok sc_law_stretch (fun vs H Q E h => by obtain ⟨a, ns, bits, rfl, _⟩ := h; rfl) (fun cdv A outer s H vs Q E hr h => ?_)
  obtain ⟨a, ns, bits, rfl, hA, hbt, q⟩ := h
  refine ⟨_, PSs.nox (pss_cons (ps_set (i := 2) sc_law_stretch.nd rfl (by first | exact Or.inl rfl | exact Or.inr rfl) (pe_callB (k_min K rfl rfl) (by rfl) T.n_min (by decide +kernel) (pa_cons (pe_lc (own := [("_law_width", 3)]) (g := gName 3) (tt := tYes) (by rfl) sc_law_stretch.nd (pi_range1 (by rfl) T.n_range (pa_cons pe_int pa_nil)) (blkOk_by (own := [("_law_width", 3)]) (N := N_law_stretch) (sc := defScope s_law_stretch) (by decide +kernel)) (fun _ _ _ _ _ => (pg_name (i := 3) sc_law_stretch.nd rfl (by first | exact Or.inl rfl | exact Or.inr rfl))) (fun _ _ _ _ _ => pts_nil) (fun _ _ _ _ _ => (pe_call (G_law_price T) (hr.mono (by decide)) (by rfl) T.g_law_price T.F_law_price.kp T.b_law_price .nil pass0 (pa_cons (pv 0) (pa_cons (pv 3) pa_nil))))) pa_nil)))
  (pss_cons (ps_if (PW.pt (pw_and (pt_cmpR op_notN (pv 1) pe_non (nomark _)) (pw_and1 (pt_cmpR (k_eqD K rfl hr.units) (pe_lc (own := [("_law_fold", 4)]) (g := gName 4) (by rfl) sc_law_stretch.nd (k_piL K rfl (pv 0)) (blkOk_by (own := [("_law_fold", 4)]) (N := N_law_stretch) (sc := defScope s_law_stretch) (by decide +kernel)) (fun _ _ _ _ _ => (pg_name (i := 4) sc_law_stretch.nd rfl (by first | exact Or.inl rfl | exact Or.inr rfl))) (fun _ _ _ _ _ => (pts_one (pt_cmpR op_ge (pv 4) (pe_op op_shl pe_int (pv 1)) (nomark _)))) (fun _ _ _ _ _ => (pv 4))) (pe_lst pa_nil) (nomark _)))))
    (pss_one (ps_ret (pe_callB (call_min2 rfl) (by rfl) T.n_min (by decide +kernel) (pa_cons (pv 2) (pa_cons (pe_op op_mul (pv 1) (pe_callB (k_len K rfl) (by rfl) T.n_len (by decide +kernel) (pa_cons (pv 0) pa_nil))) pa_nil)))))
    pss_nil)
  (pss_one (ps_ret (pv 2))))), ?_⟩
  have hl : ns.length ≤ 1000 := hA.2.2
  refine ⟨_, rfl, by decide, by decide, fun D nD => ?_⟩
  refine lc_mapR (lo := 0) (n := 42) (((List.range 42).map fun (w : Nat) => price ns w).map V.int) nD (by rw [List.length_map, List.length_map, List.length_range]) (small1000 (by decide)) (fun x => rfl) ?_ ?_
  · intro i y H' hi hy s Qt qt
    rw [List.getElem?_map, List.getElem?_map, List.getElem?_range hi] at hy
    cases hy
    refine ⟨_, rfl, _, rfl, a, ns, i, ?_, s.seq hA.sq, by omega, qt _ (Same.refl _)⟩
    show [V.ref a, V.int (0 + (i : Int))] = _
    rw [Int.zero_add]
  intro H1 s1 hD
  refine ⟨D, _, rfl, .inl (.inl hD), by rw [List.length_map, List.length_range]; decide, fun M hM hle => ?_⟩
  rw [show M = leastP ns from min_uniq hM hle]
  refine ⟨_, rfl, rfl, _, rfl, ?_⟩
  cases bits with
  | none => exact iteF ⟨_, rfl, q _ s1⟩
  | some pb =>
    refine iteT ?_
    have hpb : pb ≤ 100 := hbt
    have hA1 := hA.same s1
    refine ⟨_, rfl, a, rfl, ⟨_, hA1.sq⟩, fun D2 nD2 => ?_⟩
    refine lc_selL (K := K) (a := a) (xs := ns.map V.int) (ns.map fun n => if decide ((2 : Int) ^ pb ≤ n) = true then some (V.int n) else none) nD2 hA1.sq (by rw [List.length_map, List.length_map]) (by rw [List.length_map, sizeLine_eq]; omega) (fun x => rfl) ?_ ?_
    · intro i y o H' hy ho s' Qt qt
      obtain ⟨n, hn, rfl⟩ := int_at hy
      rw [List.getElem?_map, hn] at ho
      have eo := Option.some.inj ho
      dsimp only at eo
      refine ⟨_, rfl, _, rfl, _, _, rfl, rfl, ⟨by omega, by omega, by decide⟩, _, _, rfl, rfl, _, rfl, ?_⟩
      dsimp only
      rw [Int.one_mul, Int.toNat_natCast]
      by_cases c3 : (2 : Int) ^ pb ≤ n
      · rw [if_pos (decide_eq_true c3)] at eo
        subst eo
        exact iteDT c3 ⟨_, rfl, qt _ (Same.refl _)⟩
      · rw [if_neg (by rw [decide_eq_false c3]; decide)] at eo
        subst eo
        exact iteDF c3 (qt _ (Same.refl _))
    intro HC sC hDC
    rw [sel_int ns fun n => decide ((2 : Int) ^ pb ≤ n)] at hDC
    refine ⟨(by show 0 ≤ sizeLine; decide), fun z nz => ?_⟩
    obtain ⟨HD, eD, sD, hz⟩ := fresh (.lst ([] : List V)) nz
    rw [eD]
    have sall := s1.trans (sC.trans sD)
    refine eqD_lst (ms := []) (.inl (.inl (sD _ _ hDC))) (.inl (.inl hz)) ⟨_, rfl, ?_⟩
    have hpl := ge_pow_filter (pb := pb) (xs := ns)
    unfold strP at q
    dsimp only at q
    by_cases c4 : plainB pb ns = true
    · rw [decide_eq_true (hpl.mpr c4)]
      rw [if_pos c4] at q
      refine iteT ?_
      refine ⟨_, rfl, _, rfl, _, rfl, a, _, rfl, .inl (sall.seq hA.sq), _, _, rfl, rfl, .inl ⟨by omega, by omega⟩, _, _, rfl, ?_⟩
      rw [List.length_map]
      have em : (if (pb : Int) * (ns.length : Nat) < leastP ns then (pb : Int) * (ns.length : Nat) else leastP ns) = min (leastP ns) ((pb : Int) * (ns.length : Nat)) := by
        split <;> omega
      rw [em]
      exact q _ sall
    · rw [decide_eq_false fun z => c4 (hpl.mp z)]
      rw [if_neg c4] at q
      exact iteF ⟨_, rfl, q _ sall⟩
def sp_lens (k : Nat) : Sp := fun vs H Q _ => ∃ (m few : Nat), vs = [.int m, .int few] ∧ m < k ∧ m ≤ 8 ∧ 1 ≤ few ∧ few ≤ 3 ∧ ∀ H' p, Same H H' → LensIn H H' p (lenF few m) → Q (.ref p) H'
theorem lens_fn (T : Top K mg) : ∀ k, FnOk P w K mg base CX0 k T.f_law_lengths T.fd_law_lengths ["_law_many", "_law_few"] (sp_lens k)
  | 0 => ⟨fun vs H Q E h => by obtain ⟨m, few, _, hj, _⟩ := h; omega, fun _ _ _ _ _ _ _ _ _ _ _ _ _ h => by obtain ⟨m, few, _, hj, _⟩ := h; omega⟩
  | k + 1 => by
    have ih := lens_fn T k
    refine T.F_law_lengths.ok sc_law_lengths (fun vs H Q E h => by obtain ⟨m, few, rfl, _⟩ := h; rfl) (fun cdv A outer s H vs Q E hr h => ?_)
    obtain ⟨m, few, rfl, hmk, hm8, hf, hf3, q⟩ := h
    refine ⟨_, PSs.nox (pss_cons (ps_set (i := 2) sc_law_lengths.nd rfl (by first | exact Or.inl rfl | exact Or.inr rfl) (pe_ifExp (pt_cmpR op_eq (pv 0) pe_int (nomark _)) (pe_lst (pa_cons (pe_lst pa_nil) pa_nil)) (pe_lst pa_nil)))
  (pss_cons (ps_for PassesOwn.never rfl (pi_range2 (by rfl) T.n_range (pa_cons (pv 1) (pa_cons (pe_op op_add (pv 0) pe_int) pa_nil))) (pg_name (i := 3) sc_law_lengths.nd rfl (by first | exact Or.inl rfl | exact Or.inr rfl))
    (pss_one (ps_set (i := 2) sc_law_lengths.nd rfl (by first | exact Or.inl rfl | exact Or.inr rfl) (pe_op op_cat (pv 2) (pe_lc (own := [("_law_more", 4)]) (g := gName 4) (tt := tYes) (by rfl) sc_law_lengths.nd (k_piL K rfl (pe_call ih hr (by rfl) T.g_law_lengths T.F_law_lengths.kp T.b_law_lengths .nil pass0 (pa_cons (pe_op op_sub (pv 0) (pv 3)) (pa_cons (pv 1) pa_nil)))) (blkOk_by (own := [("_law_more", 4)]) (N := N_law_lengths) (sc := defScope s_law_lengths) (by decide +kernel)) (fun _ _ _ _ _ => (pg_name (i := 4) sc_law_lengths.nd rfl (by first | exact Or.inl rfl | exact Or.inr rfl))) (fun _ _ _ _ _ => pts_nil) (fun _ _ _ _ _ => (pe_op op_cat (pe_lst (pa_cons (pv 3) pa_nil)) (pv 4))))))))
  (pss_one (ps_ret (pv 2))))), ?_⟩
    refine asg_join (fun v H1 => ∃ p, v = .ref p ∧ Same H H1 ∧ LensIn H H1 p (lenP few m 0)) (fun Q' hQ' => ?_) ?_
    · refine ⟨_, rfl, rfl, _, rfl, ?_⟩
      by_cases c : m = 0
      · subst c
        refine iteT ?_
        refine ⟨(by show 0 ≤ sizeLine; decide), fun e ne => ?_⟩
        obtain ⟨H1, e1, s1, h1⟩ := fresh (.lst ([] : List V)) ne
        rw [e1]
        refine ⟨(by show 1 ≤ sizeLine; decide), fun p np => ?_⟩
        obtain ⟨H2, e2, s2, h2⟩ := fresh (.lst [V.ref e]) np
        rw [e2]
        refine hQ' _ _ ⟨p, rfl, s1.trans s2, [e], h2, rfl, fun i a r ha hr => ?_, none_back s1 np, fun a ha => by rw [List.mem_singleton.mp ha]; exact ne⟩
        have hi : i = 0 := by
          have := (List.getElem?_eq_some_iff.mp ha).1
          rw [List.length_singleton] at this
          omega
        subst hi
        cases ha
        cases hr
        exact s2 _ _ h1
      · rw [show decide (V.int ((m : Nat) : Int) = V.int 0) = false from decide_eq_false fun z => c (by have := V.int.inj z; omega)]
        refine iteF ?_
        refine ⟨(by show 0 ≤ sizeLine; decide), fun e ne => ?_⟩
        obtain ⟨H1, e1, s1, h1⟩ := fresh (.lst ([] : List V)) ne
        rw [e1]
        refine hQ' _ _ ⟨e, rfl, s1, [], h1, ?_, (fun i a r ha hr => by cases ha), ne, fun a ha => by cases ha⟩
        unfold lenP
        rw [if_neg c]
        rfl
    rintro _ H1 ⟨p0, rfl, s1, hL1⟩
    refine ⟨_, rfl, _, rfl, _, _, rfl, rfl, ?_⟩
    have en : (((m : Nat) : Int) + 1 - ((few : Nat) : Int)).toNat = m + 1 - few := by omega
    refine ⟨(few : Int), ((m : Nat) : Int) + 1, rfl, ⟨by omega, by omega, by omega, by omega⟩, ?_⟩
    rw [en]
    refine for_range (lo := (few : Int)) (n := m + 1 - few) (fun i σ H4 => ∃ (p : Addr) (v3 : Option V), σ = [some (.int m), some (.int few), some (.ref p), v3, none] ∧ Same H H4 ∧ LensIn H H4 p (lenP few m i)) ⟨p0, none, rfl, s1, hL1⟩ ?_ ?_
    · rintro i σ H4 hi ⟨p, v3, rfl, s4, as, hp, hal, hat, hnp, hna⟩
      refine ⟨_, rfl, _, rfl, _, rfl, _, _, rfl, rfl, _, rfl, m - (few + i), few, ?_, by omega, by omega, hf, hf3, fun H5 p5 s5 hR5 => ?_⟩
      · show [V.int ((m : Int) - ((few : Int) + (i : Int))), V.int (few : Int)] = _
        rw [show (m : Int) - ((few : Int) + (i : Int)) = ((m - (few + i) : Nat) : Int) by omega]
      obtain ⟨bs, hp5, hbl, hbt, _, _⟩ := hR5
      have hS5 : SqL K H5 p5 (bs.map V.ref) := .inl (.inl hp5)
      have hjl := lenF_len (few := few) (m := m - (few + i)) hf hf3 (by omega)
      refine ⟨p5, rfl, ⟨_, hS5⟩, fun D nD => ?_⟩
      refine lc_relL (K := K) (xs := bs.map V.ref) (fun l y H' => ∃ c, y = .ref c ∧ c ≠ D ∧ H c = none ∧ ∀ r, (lenF few (m - (few + i)))[l]? = some r → H' c = some (.lst (((few + i) :: r).map fun (x : Nat) => V.int (x : Int)))) nD hS5 (by rw [List.length_map, sizeLine_eq]; omega) ?_ (fun x => rfl) ?_ ?_
      · rintro l y H6 H7 o ⟨c, rfl, nc, hn, hc⟩
        exact ⟨c, rfl, nc, hn, fun r hr => o _ _ nc (hc r hr)⟩
      · intro l x H' zs hx s hD Qt qt
        rw [List.getElem?_map] at hx
        obtain ⟨rb, hrb, rfl⟩ := Option.map_eq_some_iff.mp hx
        have hl : l < bs.length := (List.getElem?_eq_some_iff.mp hrb).1
        obtain ⟨r, hr⟩ : ∃ r, (lenF few (m - (few + i)))[l]? = some r := ⟨_, List.getElem?_eq_getElem (by omega)⟩
        have hrb' := s _ _ (hbt l rb r hrb hr)
        refine ⟨_, rfl, (show 1 ≤ sizeLine by decide), fun c nc => ?_⟩
        obtain ⟨H6, e6, s6, h6⟩ := fresh (.lst [V.int ((few : Int) + (i : Int))]) nc
        rw [e6]
        refine ⟨_, rfl, c, rb, _, _, rfl, rfl, h6, s6 _ _ hrb', ?_, fun c2 nc2 => ?_⟩
        · have := (lenF_row hf (List.mem_of_getElem? hr)).1
          rw [List.length_map, sizeLine_eq]
          show 1 + r.length ≤ _
          omega
        · refine qt _ _ (s6.trans (same_upd nc2)) ⟨c2, rfl, (ne_of_none (s6 _ _ hD) nc2).symm, none_back ((s4.trans s5).trans (s.trans s6)) nc2, fun r' hr' => ?_⟩
          rw [hr] at hr'
          cases hr'
          rw [upd_same, List.map_cons, show (((few + i : Nat)) : Int) = (few : Int) + (i : Int) by omega]
          rfl
      intro H6 ys s6 hD6 hyl hR6
      rw [List.length_map] at hyl
      have hex : ∀ l, l < ys.length → ∃ c, ys[l]? = some (V.ref c) ∧ H c = none ∧ ∀ r, (lenF few (m - (few + i)))[l]? = some r → H6 c = some (.lst (((few + i) :: r).map fun (x : Nat) => V.int (x : Int))) := fun l hl => by
        obtain ⟨c, e, _, hn, hc⟩ := hR6 l ys[l] (List.getElem?_eq_getElem hl)
        exact ⟨c, by rw [List.getElem?_eq_getElem hl, e], hn, hc⟩
      have eys : ys = (ys.map fun y => match y with | .ref c => c | _ => 0).map V.ref := by
        rw [List.map_map]
        refine List.ext_getElem? fun l => ?_
        rw [List.getElem?_map]
        by_cases hl : l < ys.length
        · obtain ⟨c, e, _⟩ := hex l hl
          rw [e]
          rfl
        · rw [List.getElem?_eq_none (by omega)]
          rfl
      have hb := lenP_128 (few := few) (m := m) (j := i + 1) hf hf3 hm8 (by omega)
      rw [lenP_succ, List.length_append, List.length_map, ← hal] at hb
      refine ⟨p, D, _, _, rfl, rfl, s6 _ _ (s5 _ _ hp), hD6, by rw [List.length_map, sizeLine_eq]; omega, fun p7 np7 => ?_⟩
      obtain ⟨H7, e7, s7, h7⟩ := fresh (.lst (as.map V.ref ++ ys)) np7
      rw [e7]
      have s47 := (s5.trans s6).trans s7
      refine ⟨p7, _, rfl, s4.trans s47, ?_⟩
      rw [lenP_succ]
      rw [eys] at h7
      refine LensIn.app hal (fun l a r ha hr => s47 _ _ (hat l a r ha hr)) (by rw [List.length_map, List.length_map, hyl, hbl]) (fun l a r ha hr => ?_) h7 (none_back (s4.trans (s5.trans s6)) np7) hna (fun a ha => ?_)
      rotate_left
      · obtain ⟨y, hy, rfl⟩ := List.mem_map.mp ha
        obtain ⟨l, hl⟩ := List.getElem?_of_mem hy
        obtain ⟨c, e, hn, _⟩ := hex l (List.getElem?_eq_some_iff.mp hl).1
        rw [hl] at e
        cases e
        exact hn
      rw [List.getElem?_map] at ha hr
      obtain ⟨y, hy, rfl⟩ := Option.map_eq_some_iff.mp ha
      obtain ⟨r', hr', rfl⟩ := Option.map_eq_some_iff.mp hr
      obtain ⟨c, e, _, hc⟩ := hex l (List.getElem?_eq_some_iff.mp hy).1
      rw [hy] at e
      cases e
      exact s7 _ _ (hc r' hr')
    · rintro σ H4 ⟨p, v3, rfl, s4, hR⟩
      rw [show lenP few m (m + 1 - few) = lenF few m from (lenF_eq hf m).symm] at hR
      exact ⟨_, rfl, q _ p s4 hR⟩
theorem G_law_lengths (T : Top K mg) : FnOk P w K mg base CX0 14 T.f_law_lengths T.fd_law_lengths ["_law_many", "_law_few"] (sp_lens 14) := lens_fn T 14
end
end My

namespace My
open PySem PySem.Spec PyProof.Rows L2 Pre
/-! ### the law's costs of all cuts, costs of what is handed in, prices, papers -/
/-- what cuts cost that are handed in, none where they are none -/
def cutT (bits : Option Nat) (few : Nat) (cost : Int) (ns : List Int) : Option (List CI) → Option Int
  | some cs => match ccF bits few cost ns 0 0 cs with
    | some (p, t) => if p = ns.length then some t else none
    | none => none
  | none => none
local macro_rules | `(tactic| walk_at "go") => `(tactic| repeat (first | (with_reducible first | refine iteT ?_ | refine iteF ?_ | refine iteNtt ?_ | refine iteNff ?_ | refine iteET (by omega) ?_ | refine iteEF (by omega) ?_ | refine iteENT (by omega) ?_ | refine iteENF (by omega) ?_ | refine iteDT (by omega) ?_ | refine iteDF (by omega) ?_ | refine iteNT (by omega) ?_ | refine iteNF (by omega) ?_) | refine ⟨_, rfl, ?_⟩ | refine ⟨_, _, rfl, rfl, ?_⟩ | refine ⟨_, _, rfl, ?_⟩ | refine ⟨rfl, ?_⟩ | refine .inl ⟨_, rfl, ?_⟩ | refine .inr ⟨_, rfl, ?_⟩))
local macro_rules | `(tactic| walk_at "b") => `(tactic| try dsimp (config := { proj := false, iota := false, eta := false, zeta := false }) only)
section
variable {P : Program} {w : World} {K : PySem.W.Frag} {mg : Str → Option Value} {base : Heap}
def sp_law_all_costs (K : PySem.W.Frag) : Sp := fun vs H Q _ => ∃ (a : Addr) (ns : List Int) (few : Nat) (cost : Int) (bits : Option Nat), vs = [.ref a, .int few, .int cost, optV bits] ∧ FoldsAt K H a ns ∧ ns.length ≤ 8 ∧ 1 ≤ few ∧ few ≤ 3 ∧ bits.getD 0 ≤ 100 ∧ ∀ H' p, Same H H' → H' p = some (.lst ((costs bits few cost ns ns.length).map V.int)) → Q (.ref p) H'
theorem G_law_all_costs (T : Top K mg) : FnOk P w K mg base CX0 15 T.f_law_all_costs T.fd_law_all_costs ["_law_folds", "_law_few", "_law_cost", "_law_bits"] (sp_law_all_costs K) := by
  refine T.F_law_all_costs.ok sc_law_all_costs (fun vs H Q E h => by obtain ⟨a, ns, few, cost, bits, rfl, _⟩ := h; rfl) (fun cdv A outer s H vs Q E hr h => ?_)
  obtain ⟨a, ns, few, cost, bits, rfl, hA, h8, hf, hf3, hbt, q⟩ := h
  refine ⟨_, PSs.nox (pss_cons (ps_set (i := 4) sc_law_all_costs.nd rfl (by first | exact Or.inl rfl | exact Or.inr rfl) (pe_lst pa_nil))
  (pss_cons (ps_for PassesOwn.never rfl (k_piL K rfl (pe_call (G_law_lengths T) (hr.mono (by decide)) (by rfl) T.g_law_lengths T.F_law_lengths.kp T.b_law_lengths .nil pass0 (pa_cons (pe_callB (k_len K rfl) (by rfl) T.n_len (by decide +kernel) (pa_cons (pv 0) pa_nil)) (pa_cons (pv 1) pa_nil)))) (pg_name (i := 5) sc_law_all_costs.nd rfl (by first | exact Or.inl rfl | exact Or.inr rfl))
    (pss_cons (ps_asg (pe_tup (pa_cons pe_int (pa_cons pe_int pa_nil))) (k_pgT K rfl (by rfl) (pgs_cons (pg_name (i := 7) sc_law_all_costs.nd rfl (by first | exact Or.inl rfl | exact Or.inr rfl)) (pgs_cons (pg_name (i := 8) sc_law_all_costs.nd rfl (by first | exact Or.inl rfl | exact Or.inr rfl)) pgs_nil))))
  (pss_cons (ps_for PassesOwn.never rfl (k_piL K rfl (pv 5)) (pg_name (i := 6) sc_law_all_costs.nd rfl (by first | exact Or.inl rfl | exact Or.inr rfl))
    (pss_cons (ps_set (i := 8) sc_law_all_costs.nd rfl (by first | exact Or.inl rfl | exact Or.inr rfl) (pe_op op_add (pe_op op_add (pv 8) (pv 2)) (pe_call (G_law_stretch T) (hr.mono (by decide)) (by rfl) T.g_law_stretch T.F_law_stretch.kp T.b_law_stretch .nil pass0 (pa_cons (pe_slice (k_slL K rfl) (pv 0) (po_some (pv 7)) (po_some (pe_op op_add (pv 7) (pv 6)))) (pa_cons (pv 3) pa_nil)))))
  (pss_one (ps_set (i := 7) sc_law_all_costs.nd rfl (by first | exact Or.inl rfl | exact Or.inr rfl) (pe_op op_add (pv 7) (pv 6))))))
  (pss_one (ps_expr (pe_bm PySem.F.plainAttrs_list PySem.F.slot_list_append PySem.F.type_list_append mt_append (pv 4) (pa_cons (pv 8) pa_nil)))))))
  (pss_one (ps_ret (pv 4))))), ?_⟩
  have hlen : (ns.map V.int).length = ns.length := List.length_map ..
  refine ⟨(by show 0 ≤ sizeLine; decide), fun tp ntp => ?_⟩
  obtain ⟨H1, e1, s1, htp⟩ := fresh (.lst ([] : List V)) ntp
  rw [e1]
  refine ⟨_, rfl, a, _, rfl, .inl (s1.seq hA.sq), _, rfl, ns.length, few, by rw [hlen]; rfl, by omega, h8, hf, hf3, fun H2 p s2 hL => ?_⟩
  obtain ⟨as, hp, hal, hat, hnp, hna⟩ := hL
  have hl128 := lenF_len hf hf3 h8
  have ptp : p ≠ tp := fun z => by rw [z, htp] at hnp; cases hnp
  have sH : ∀ {HA : Hp}, (∀ b o, b ≠ tp → H2 b = some o → HA b = some o) → Same H HA := fun {HA} hk c o h => hk _ _ (fun z => by rw [z, ntp] at h; cases h) (s2 _ _ (s1 _ _ h))
  refine ⟨p, rfl, ⟨_, .inl (.inl hp)⟩, ?_⟩
  refine for_list (K := K) (a := p) (xs := as.map V.ref) (fun i σ HA => ∃ (v5 v6 v7 v8 : Option V), σ = [some (.ref a), some (.int few), some (.int cost), some (optV bits), some (.ref tp), v5, v6, v7, v8] ∧ (∀ b o, b ≠ tp → H2 b = some o → HA b = some o) ∧ HA tp = some (.lst ((((lenF few ns.length).take i).map (costG bits cost ns 0)).map V.int)))
    ⟨none, none, none, none, rfl, fun b o _ h => h, s2 _ _ htp⟩ (fun i σ HA _ ⟨_, _, _, _, _, h, _⟩ => .inl (.inl (h _ _ ptp hp))) ?_ ?_
  · rintro i x σ HA hx ⟨v5, v6, v7, v8, rfl, hk, hT⟩
    rw [List.getElem?_map] at hx
    obtain ⟨ra, hra, rfl⟩ := Option.map_eq_some_iff.mp hx
    have hil : i < (lenF few ns.length).length := by rw [← hal]; exact (List.getElem?_eq_some_iff.mp hra).1
    obtain ⟨r, hr⟩ : ∃ r, (lenF few ns.length)[i]? = some r := ⟨_, List.getElem?_eq_getElem hil⟩
    have rtp : ra ≠ tp := fun z => by
      have := hna ra (List.mem_of_getElem? hra)
      rw [z, htp] at this
      cases this
    have hrA := hk _ _ rtp (hat i ra r hra hr)
    have sHA := sH hk
    obtain ⟨hrl, hrs⟩ := lenF_row hf (List.mem_of_getElem? hr)
    refine ⟨(by show 2 ≤ sizeLine; decide), fun z nz => ?_⟩
    obtain ⟨HB, eB, sB, hz⟩ := fresh (.tup [V.int 0, .int 0]) nz
    rw [eB]
    refine ⟨z, _, rfl, .inl (.inl hz), rfl, _, _, rfl, _, _, rfl, rfl, ?_⟩
    have hrB := sB _ _ hrA
    refine ⟨_, rfl, ra, rfl, ⟨_, .inl (.inl hrB)⟩, ?_⟩
    refine for_list (K := K) (a := ra) (xs := r.map fun (x : Nat) => V.int (x : Int)) (fun j σ HC => ∃ (v6 : Option V), σ = [some (.ref a), some (.int few), some (.int cost), some (optV bits), some (.ref tp), some (.ref ra), v6, some (.int ((r.take j).sum : Nat)), some (.int (costG bits cost ns 0 (r.take j)))] ∧ Same HB HC)
      ⟨v6, rfl, Same.refl _⟩ (fun j σ HC _ ⟨_, _, h⟩ => .inl (.inl (h _ _ hrB))) ?_ ?_
    · rintro j x σ HC hx ⟨w6, rfl, sC⟩
      rw [List.getElem?_map] at hx
      obtain ⟨n, hn, rfl⟩ := Option.map_eq_some_iff.mp hx
      have et : r.take (j + 1) = r.take j ++ [n] := by rw [List.take_add_one, hn]; rfl
      have hsum : (r.take j).sum + n ≤ ns.length := by
        have h1 : (r.take (j + 1)).sum ≤ r.sum := by
          conv => rhs; rw [← List.take_append_drop (j + 1) r, List.sum_append]
          exact Nat.le_add_right _ _
        rw [et, List.sum_append] at h1
        have h2 : [n].sum = n := by simp
        omega
      have sAC := sB.trans sC
      refine ⟨_, rfl, _, rfl, _, _, rfl, rfl, _, rfl, _, rfl, _, rfl, _, rfl, _, rfl, _, _, rfl, rfl, _, rfl, a, _, rfl, (sHA.trans sAC).seq hA.sq, fun sp nsp => ?_⟩
      rw [show (((r.take j).sum : Nat) : Int) + (n : Int) = (((r.take j).sum + n : Nat) : Int) by omega, cut_slc' ns (show (r.take j).sum ≤ (r.take j).sum + n by omega)]
      obtain ⟨HD, eD, sD, hsp⟩ := fresh (.lst ((slc ns (r.take j).sum ((r.take j).sum + n)).map V.int)) nsp
      rw [eD]
      have hsl := slc_le (ns := ns) (b := (r.take j).sum) (p := (r.take j).sum + n)
      refine ⟨_, rfl, sp, _, bits, rfl, ⟨.inl hsp, fun y hy => hA.2.1 y (slc_sub hy), by omega⟩, hbt, fun HE sE => ?_⟩
      refine ⟨_, _, rfl, rfl, ?_⟩
      refine ⟨_, rfl, _, rfl, _, _, rfl, rfl, some (.int (n : Int)), ?_, sC.trans (sD.trans sE)⟩
      rw [et, costG_snoc, List.sum_append, Nat.zero_add, ← Int.add_assoc]
      show [some (V.ref a), some (.int few), some (.int cost), some (optV bits), some (.ref tp), some (.ref ra), some (.int (n : Int)), some (.int (((r.take j).sum : Nat) + (n : Int))), _] = _
      rw [show (((r.take j).sum : Nat) : Int) + (n : Int) = (((r.take j).sum + [n].sum : Nat) : Int) by simp]
    · rintro σ HC ⟨w6, rfl, sC⟩
      rw [List.length_map, List.take_length]
      have hTC := sC _ _ (sB _ _ hT)
      refine ⟨_, rfl, .inl ⟨rfl, _, .inl (.inl hTC)⟩, _, rfl, tp, _, _, rfl, rfl, hTC, by rw [List.length_map, List.length_map, List.length_take, sizeLine_eq]; omega, ?_⟩
      refine ⟨_, _, _, _, rfl, fun b o nb h => by rw [upd_ne nb]; exact sC _ _ (sB _ _ (hk _ _ nb h)), ?_⟩
      rw [upd_same, List.take_add_one, hr, List.map_append, List.map_append]
      rfl
  · rintro σ HA ⟨v5, v6, v7, v8, rfl, hk, hT⟩
    rw [List.length_map, hal, List.take_length] at hT
    exact ⟨_, rfl, q _ tp (sH hk) hT⟩
def sp_law_whole (K : PySem.W.Frag) : Sp := fun vs H Q _ => ∃ (v : V) (lo : Option Int), vs = [v, hiV lo] ∧ ((∃ i : Int, v = .int i ∧ Q (.bl (decide (∀ j, lo = some j → j ≤ i))) H) ∨ (BadN K H v ∧ Q (.bl false) H))
theorem G_law_whole (T : Top K mg) : FnOk P w K mg base CX0 1 T.f_law_whole T.fd_law_whole ["_law_thing", "_law_least"] (sp_law_whole K) := by
  refine T.F_law_whole.ok sc_law_whole (fun vs H Q E h => by obtain ⟨v, lo, rfl, _⟩ := h; rfl) (fun cdv A outer s H vs Q E hr h => ?_)
  obtain ⟨v, lo, rfl, h⟩ := h
  refine ⟨_, PSs.nox (pss_one (ps_ret (pe_and (pe_callB (k_isi K rfl) (by rfl) T.n_isinstance (by decide +kernel) (pa_cons (pv 0) (pa_cons (pe_bltn (v := .ty "int") (by rfl) T.n_int (by decide +kernel) rfl) pa_nil))) (pe_and (pe_not (pe_callB (k_isi K rfl) (by rfl) T.n_isinstance (by decide +kernel) (pa_cons (pv 0) (pa_cons (pe_bltn (v := .ty "bool") (by rfl) T.n_bool (by decide +kernel) rfl) pa_nil)))) (pe_one (pe_or (pe_cmpR op_isN (pv 1) pe_non (nomark _)) (pe_one (pe_cmpR op_ge (pv 0) (pv 1) (nomark _))))))))), ?_⟩
  rcases h with ⟨i, rfl, q⟩ | ⟨⟨b, rfl⟩ | ⟨T, ty, hT⟩, q⟩
  · refine ⟨_, rfl, _, _, _, _, true, rfl, .ty _, .base (.int i), kit_ty (by decide +kernel), true, rfl, iteT ?_⟩
    refine ⟨_, rfl, _, _, _, _, false, rfl, .ty _, .base (.int i), kit_ty (by decide +kernel), false, rfl, true, rfl, iteT ?_⟩
    cases lo with
    | none =>
      rw [decide_eq_true fun j h => by cases h] at q
      exact ⟨_, rfl, rfl, _, rfl, iteT q⟩
    | some j =>
      refine ⟨_, rfl, rfl, _, rfl, iteF ⟨_, rfl, _, rfl, _, _, rfl, rfl, ?_⟩⟩
      have e : decide (∀ j', some j = some j' → j' ≤ i) = decide (j ≤ i) := by
        by_cases h : j ≤ i
        · rw [decide_eq_true h, decide_eq_true]
          exact fun j' e => by cases e; exact h
        · rw [decide_eq_false h, decide_eq_false]
          exact fun z => h (z j rfl)
      rw [e] at q
      exact q
  · refine ⟨_, rfl, _, _, _, _, true, rfl, .ty _, .base (.bl b), kit_ty (by decide +kernel), true, rfl, iteT ?_⟩
    exact ⟨_, rfl, _, _, _, _, true, rfl, .ty _, .base (.bl b), kit_ty (by decide +kernel), true, rfl, false, rfl, iteF q⟩
  · exact ⟨_, rfl, _, _, _, _, false, rfl, .ty _, ty, kit_ty hT, false, rfl, iteF q⟩
def sp_law_cuts_cost (K : PySem.W.Frag) : Sp := fun vs H Q _ => ∃ (a : Addr) (ns : List Int) (few : Nat) (cost : Int) (bits : Option Nat) (cv : V) (co : Option (List CI)), vs = [.ref a, .int few, .int cost, optV bits, cv] ∧ FoldsAt K H a ns ∧ CutsV K H cv co ∧ 1 ≤ few ∧ bits.getD 0 ≤ 100 ∧ ∀ H', Same H H' → Q (totV (cutT bits few cost ns co)) H'
theorem G_law_cuts_cost (T : Top K mg) : FnOk P w K mg base CX0 2 T.f_law_cuts_cost T.fd_law_cuts_cost ["_law_folds", "_law_few", "_law_cost", "_law_bits", "_law_cuts"] (sp_law_cuts_cost K) := by
  refine T.F_law_cuts_cost.ok sc_law_cuts_cost (fun vs H Q E h => by obtain ⟨a, ns, few, cost, bits, cv, co, rfl, _⟩ := h; rfl) (fun cdv A outer s H vs Q E hr h => ?_)
  obtain ⟨a, ns, few, cost, bits, cv, co, rfl, hA, hc, hf, hbt, q⟩ := h
  refine ⟨_, PSs.nox (pss_cons (ps_asg (pe_tup (pa_cons pe_int (pa_cons pe_int pa_nil))) (k_pgT K rfl (by rfl) (pgs_cons (pg_name (i := 6) sc_law_cuts_cost.nd rfl (by first | exact Or.inl rfl | exact Or.inr rfl)) (pgs_cons (pg_name (i := 7) sc_law_cuts_cost.nd rfl (by first | exact Or.inl rfl | exact Or.inr rfl)) pgs_nil))))
  (pss_cons (ps_if (pt_not (pt_val (pe_callB (k_isi K rfl) (by rfl) T.n_isinstance (by decide +kernel) (pa_cons (pv 4) (pa_cons (pe_bltn (v := .ty "list") (by rfl) T.n_list (by decide +kernel) rfl) pa_nil)))))
    (pss_one (ps_ret pe_non))
    pss_nil)
  (pss_cons (ps_for PassesOwn.never rfl (k_piL K rfl (pv 4)) (pg_name (i := 5) sc_law_cuts_cost.nd rfl (by first | exact Or.inl rfl | exact Or.inr rfl))
    (pss_cons (ps_if (PW.pt (pw_or (pt_not (pt_val (pe_callB (k_isi K rfl) (by rfl) T.n_isinstance (by decide +kernel) (pa_cons (pv 5) (pa_cons (pe_bltn (v := .ty "tuple") (by rfl) T.n_tuple (by decide +kernel) rfl) pa_nil))))) (pw_or (pt_cmpR op_ne (pe_callB (k_len K rfl) (by rfl) T.n_len (by decide +kernel) (pa_cons (pv 5) pa_nil)) pe_int (nomark _)) (pw_or1 (pt_not (pt_val (pe_call (G_law_whole T) (hr.mono (by decide)) (by rfl) T.g_law_whole T.F_law_whole.kp T.b_law_whole .nil pass0 (pa_cons (pe_ix (k_ixT K rfl) (pv 5) pe_int (fun _ _ => rfl)) (pa_cons (pv 1) pa_nil)))))))))
    (pss_one (ps_ret pe_non))
    pss_nil)
  (pss_cons (ps_set (i := 8) sc_law_cuts_cost.nd rfl (by first | exact Or.inl rfl | exact Or.inr rfl) (pe_slice (k_slL K rfl) (pv 0) (po_some (pv 6)) (po_some (pe_op op_add (pv 6) (pe_ix (k_ixT K rfl) (pv 5) pe_int (fun _ _ => rfl))))))
  (pss_cons (ps_if (pt_cmpR op_isN (pe_ix (k_ixT K rfl) (pv 5) pe_int (fun _ _ => rfl)) pe_non (nomark _))
    (pss_cons (ps_if (PW.pt (pw_or (pt_cmpR op_isN (pv 3) pe_non (nomark _)) (pw_or1 (pt_cmpR (k_neD K rfl hr.units) (pe_lc (own := [("_law_fold", 9)]) (g := gName 9) (by rfl) sc_law_cuts_cost.nd (k_piL K rfl (pv 8)) (blkOk_by (own := [("_law_fold", 9)]) (N := N_law_cuts_cost) (sc := defScope s_law_cuts_cost) (by decide +kernel)) (fun _ _ _ _ _ => (pg_name (i := 9) sc_law_cuts_cost.nd rfl (by first | exact Or.inl rfl | exact Or.inr rfl))) (fun _ _ _ _ _ => (pts_one (pt_cmpR op_ge (pv 9) (pe_op op_shl pe_int (pv 3)) (nomark _)))) (fun _ _ _ _ _ => (pv 9))) (pe_lst pa_nil) (nomark _)))))
    (pss_one (ps_ret pe_non))
    pss_nil)
  (pss_one (ps_set (i := 7) sc_law_cuts_cost.nd rfl (by first | exact Or.inl rfl | exact Or.inr rfl) (pe_op op_add (pe_op op_add (pv 7) (pv 2)) (pe_op op_mul (pv 3) (pe_ix (k_ixT K rfl) (pv 5) pe_int (fun _ _ => rfl)))))))
    (pss_one (ps_if (PW.pt (pw_or (pt_not (pt_val (pe_call (G_law_whole T) (hr.mono (by decide)) (by rfl) T.g_law_whole T.F_law_whole.kp T.b_law_whole .nil pass0 (pa_cons (pe_ix (k_ixT K rfl) (pv 5) pe_int (fun _ _ => rfl)) (pa_cons pe_int pa_nil))))) (pw_or1 (pt_cmpR op_gt (pe_ix (k_ixT K rfl) (pv 5) pe_int (fun _ _ => rfl)) pe_int (nomark _)))))
    (pss_one (ps_ret pe_non))
    (pss_one (ps_set (i := 7) sc_law_cuts_cost.nd rfl (by first | exact Or.inl rfl | exact Or.inr rfl) (pe_op op_add (pe_op op_add (pv 7) (pv 2)) (pe_call (G_law_price T) (hr.mono (by decide)) (by rfl) T.g_law_price T.F_law_price.kp T.b_law_price .nil pass0 (pa_cons (pv 8) (pa_cons (pe_ix (k_ixT K rfl) (pv 5) pe_int (fun _ _ => rfl)) pa_nil)))))))))
  (pss_one (ps_set (i := 6) sc_law_cuts_cost.nd rfl (by first | exact Or.inl rfl | exact Or.inr rfl) (pe_op op_add (pv 6) (pe_ix (k_ixT K rfl) (pv 5) pe_int (fun _ _ => rfl)))))))))
  (pss_one (ps_ret (pe_ifExp (pt_cmpR op_eq (pv 6) (pe_callB (k_len K rfl) (by rfl) T.n_len (by decide +kernel) (pa_cons (pv 0) pa_nil)) (nomark _)) (pv 7) pe_non)))))), ?_⟩
  have hlen : (ns.map V.int).length = ns.length := List.length_map ..
  have hF := hA.2.1
  have hl1000 : ns.length ≤ 1000 := hA.2.2
  refine ⟨(by show 2 ≤ sizeLine; decide), fun z nz => ?_⟩
  obtain ⟨H1, e1, s1, hz⟩ := fresh (.tup [V.int 0, .int 0]) nz
  rw [e1]
  refine ⟨z, _, rfl, .inl (.inl hz), rfl, _, _, rfl, _, _, rfl, rfl, ?_⟩
  have hc1 := hc.same s1
  cases co with
  | none =>
    obtain ⟨T1, ty, hT⟩ := hc1
    exact ⟨_, rfl, _, _, _, _, false, rfl, .ty _, ty, kit_ty hT, false, rfl, iteT (q _ s1)⟩
  | some cs =>
    obtain ⟨ca, xs, rfl, hca, hxl, hcl, hit⟩ := hc1
    refine ⟨_, rfl, _, _, _, _, true, rfl, .ty _, .base (.lst hca), kit_ty (by decide +kernel), true, rfl, iteF ?_⟩
    simp only [tNext]
    refine ⟨_, rfl, ca, rfl, ⟨_, .inl (.inl hca)⟩, ?_⟩
    refine for_list (K := K) (a := ca) (xs := xs) (fun i σ HA => ∃ (pl : Nat) (t : Int) (v5 v8 : Option V), σ = [some (.ref a), some (.int few), some (.int cost), some (optV bits), some (.ref ca), v5, some (.int (pl : Nat)), some (.int t), v8, none] ∧ Same H1 HA ∧ ccF bits few cost ns 0 0 (cs.take i) = some (pl, t)) ⟨0, 0, none, none, rfl, Same.refl _, rfl⟩ (fun i σ HA _ ⟨_, _, _, _, _, s, _⟩ => .inl (.inl (s _ _ hca))) ?_ ?_
    · rintro i x σ HA hx ⟨pl, t, v5, v8, rfl, sA, hcc⟩
      obtain ⟨c, hcx⟩ := some_in hxl hx
      have hit1 := (hit i x c hx hcx).same sA
      have hcut := ccF_cut hcx hcc
      have no : ccF bits few cost ns pl t [c] = none → ∀ H', Same HA H' → Q .non H' := fun e H' s' => by
        have := q H' (s1.trans (sA.trans s'))
        rw [e] at hcut
        rw [show cutT bits few cost ns (some cs) = none by unfold cutT; dsimp only; rw [ccF_none hcut]] at this
        exact this
      cases c with
      | none =>
        obtain ⟨T1, ty, hT⟩ := hit1
        exact ⟨_, rfl, _, _, _, _, false, rfl, .ty _, ty, kit_ty hT, false, rfl, iteT (no rfl _ (Same.refl _))⟩
      | some q0 =>
        obtain ⟨l, wv⟩ := q0
        obtain ⟨ta, wd, rfl, hta, hwd⟩ := hit1
        refine ⟨_, rfl, _, _, _, _, true, rfl, .ty _, .base (.tup hta), kit_ty (by decide +kernel), true, rfl, iteF ?_⟩
        refine ⟨_, rfl, ta, _, rfl, .inr (.inl (.inl hta)), rfl, _, rfl, iteENF rfl ?_⟩
        refine ⟨_, rfl, ta, _, _, _, rfl, rfl, .inl (.inl hta), atI_nat (j := 0) rfl, _, rfl, .int l, some (few : Int), rfl, .inl ⟨l, rfl, _, rfl, ?_⟩⟩
        by_cases c1 : (few : Int) ≤ l
        rotate_left
        · rw [decide_eq_false fun z => c1 (z _ rfl)]
          exact iteT (no (by show (if (few : Int) ≤ l then _ else none) = none; rw [if_neg c1]) _ (Same.refl _))
        rw [decide_eq_true (show ∀ j, some (few : Int) = some j → j ≤ l from fun j h => by cases h; exact c1)]
        refine iteF ?_
        have hone : ccF bits few cost ns pl t [some (l, wv)] = match okW bits (slc ns pl (pl + l.toNat)) l wv with
          | some c => some (pl + l.toNat, t + cost + c)
          | none => none := by
          show (if (few : Int) ≤ l then _ else none) = _
          rw [if_pos c1]
          cases okW bits (slc ns pl (pl + l.toNat)) l wv <;> rfl
        rw [hone] at hcut no
        clear hone
        have l0 : 0 ≤ l := by omega
        refine ⟨_, rfl, _, rfl, _, rfl, _, rfl, _, rfl, ta, _, _, _, rfl, rfl, .inl (.inl hta), atI_nat (j := 0) rfl, _, _, rfl, rfl, _, rfl, a, _, rfl, ((s1.trans sA).seq hA.sq), fun sp nsp => ?_⟩
        obtain ⟨HB, eB, sB, hsp⟩ := fresh (.lst (cutV (ns.map V.int) (some (pl : Int)) (some ((pl : Int) + l)))) nsp
        rw [eB]
        rw [cut_slc ns pl l0] at hsp
        have htaB := sB _ _ hta
        have hsl := slc_le (ns := ns) (b := pl) (p := pl + l.toNat)
        generalize slc ns pl (pl + l.toNat) = xs' at *
        simp only [gName]
        refine ifs_join (fun σ' H' => ∃ c0, σ' = [some (.ref a), some (.int few), some (.int cost), some (optV bits), some (.ref ca), some (.ref ta), some (.int (pl : Nat)), some (.int (t + cost + c0)), some (.ref sp), none] ∧ Same HB H' ∧ okW bits xs' l wv = some c0) (fun nx hnx => ?_) ?_
        · have stop : okW bits xs' l wv = none → ∀ H', Same HB H' → Q .non H' := fun e H' s' => no (by rw [e]) _ (sB.trans s')
          have gob : ∀ c0, okW bits xs' l wv = some c0 → ∀ H', Same HB H' → nx [some (.ref a), some (.int few), some (.int cost), some (optV bits), some (.ref ca), some (.ref ta), some (.int (pl : Nat)), some (.int (t + cost + c0)), some (.ref sp), none] H' := fun c0 e H' s' => hnx _ _ ⟨c0, rfl, s', e⟩
          refine ⟨_, rfl, ta, _, _, _, rfl, rfl, .inl (.inl htaB), atI_nat (j := 1) rfl, rfl, _, rfl, ?_⟩
          cases wv with
          | none =>
            rw [decide_eq_false hwd.2]
            refine iteF ?_
            refine ⟨_, rfl, ta, _, _, _, rfl, rfl, .inl (.inl htaB), atI_nat (j := 1) rfl, wd, some 0, rfl, .inr ⟨hwd.1.same sB, _, rfl, iteT (stop rfl _ (Same.refl _))⟩⟩
          | some o =>
            cases o with
            | some i0 =>
              obtain rfl : wd = .int i0 := hwd
              refine iteF ?_
              refine ⟨_, rfl, ta, _, _, _, rfl, rfl, .inl (.inl htaB), atI_nat (j := 1) rfl, .int i0, some 0, rfl, .inl ⟨i0, rfl, _, rfl, ?_⟩⟩
              have stop' : ¬ (0 ≤ i0 ∧ i0 ≤ 120) → ∀ H', Same HB H' → Q .non H' := fun c2 => stop (by show (if 0 ≤ i0 ∧ i0 ≤ 120 then _ else none) = none; rw [if_neg c2])
              by_cases c2 : 0 ≤ i0
              rotate_left
              · rw [decide_eq_false fun z => c2 (z _ rfl)]
                exact iteT (stop' (fun z => c2 z.1) _ (Same.refl _))
              rw [decide_eq_true (show ∀ j, some (0 : Int) = some j → j ≤ i0 from fun j h => by cases h; exact c2)]
              refine iteF ?_
              refine ⟨_, rfl, ta, _, _, _, rfl, rfl, .inl (.inl htaB), atI_nat (j := 1) rfl, _, _, rfl, rfl, _, rfl, ?_⟩
              by_cases c3 : i0 ≤ 120
              rotate_left
              · rw [decide_eq_true (show 120 < i0 by omega)]
                exact iteT (stop' (fun z => c3 z.2) _ (Same.refl _))
              rw [decide_eq_false (show ¬ 120 < i0 by omega)]
              refine iteF ?_
              refine ⟨_, rfl, _, rfl, _, _, rfl, rfl, _, rfl, _, rfl, ta, _, _, _, rfl, rfl, .inl (.inl htaB), atI_nat (j := 1) rfl, ?_⟩
              refine ⟨sp, xs', i0.toNat, by rw [Int.toNat_of_nonneg c2]; rfl, .inl (.inl hsp), by omega, _, _, rfl, rfl, ?_⟩
              exact gob _ (by show (if 0 ≤ i0 ∧ i0 ≤ 120 then _ else none) = _; rw [if_pos ⟨c2, c3⟩]) _ (Same.refl _)
            | none =>
              obtain rfl : wd = .non := hwd
              refine iteT ?_
              refine ifs_join (fun σ' H' => ∃ pb, σ' = [some (.ref a), some (.int few), some (.int cost), some (optV bits), some (.ref ca), some (.ref ta), some (.int (pl : Nat)), some (.int t), some (.ref sp), none] ∧ Same HB H' ∧ bits = some pb ∧ plainB pb xs' = true) (fun nx2 hnx2 => ?_) ?_
              · refine ⟨_, rfl, rfl, _, rfl, ?_⟩
                cases bits with
                | none => exact iteT (stop rfl _ (Same.refl _))
                | some pb =>
                  have hpb : pb ≤ 100 := hbt
                  refine iteF ?_
                  refine ⟨_, rfl, sp, rfl, ⟨_, .inl (.inl hsp)⟩, fun D nD => ?_⟩
                  refine lc_selL (K := K) (a := sp) (xs := xs'.map V.int) (xs'.map fun n => if decide ((2 : Int) ^ pb ≤ n) = true then some (V.int n) else none) nD (.inl (.inl hsp)) (by rw [List.length_map, List.length_map]) (by rw [List.length_map, sizeLine_eq]; omega) (fun x => rfl) ?_ ?_
                  · intro i y o H' hy ho s' Qt qt
                    obtain ⟨n, hn, rfl⟩ := int_at hy
                    rw [List.getElem?_map, hn] at ho
                    have eo := Option.some.inj ho
                    dsimp only at eo
                    refine ⟨_, rfl, _, rfl, _, _, rfl, rfl, ⟨by omega, by omega, by decide⟩, _, _, rfl, rfl, _, rfl, ?_⟩
                    dsimp only
                    rw [Int.one_mul, Int.toNat_natCast]
                    by_cases c3 : (2 : Int) ^ pb ≤ n
                    · rw [if_pos (decide_eq_true c3)] at eo
                      subst eo
                      exact iteDT c3 ⟨_, rfl, qt _ (Same.refl _)⟩
                    · rw [if_neg (by rw [decide_eq_false c3]; decide)] at eo
                      subst eo
                      exact iteDF c3 (qt _ (Same.refl _))
                  intro HC sC hD
                  rw [sel_int xs' fun n => decide ((2 : Int) ^ pb ≤ n)] at hD
                  refine ⟨(by show 0 ≤ sizeLine; decide), fun z nz => ?_⟩
                  obtain ⟨HD, eD, sD, hz⟩ := fresh (.lst ([] : List V)) nz
                  rw [eD]
                  refine neD_lst (ms := []) (.inl (.inl (sD _ _ hD))) (.inl (.inl hz)) ⟨_, rfl, ?_⟩
                  have hpl := ge_pow_filter (pb := pb) (xs := xs')
                  by_cases c4 : plainB pb xs' = true
                  · rw [decide_eq_true (hpl.mpr c4)]
                    exact iteF (hnx2 _ _ ⟨pb, rfl, sC.trans sD, rfl, c4⟩)
                  · rw [decide_eq_false fun z => c4 (hpl.mp z)]
                    exact iteT (stop (by show (if plainB pb xs' = true then _ else none) = none; rw [if_neg c4]) _ (sC.trans sD))
              rintro _ HC ⟨pb, rfl, sC, rfl, hp⟩
              have hpb : pb ≤ 100 := hbt
              exact ⟨_, rfl, _, rfl, _, _, rfl, rfl, _, rfl, _, rfl, ta, _, _, _, rfl, rfl, .inl (.inl (sC _ _ htaB)), atI_nat (j := 0) rfl, _, _, rfl, rfl, .inl ⟨by omega, by omega⟩, _, _, rfl, rfl, gob _ (by show (if plainB pb xs' = true then _ else none) = _; rw [if_pos hp]) _ sC⟩
        rintro _ HC ⟨c0, rfl, sC, hc0⟩
        rw [hc0] at hcut
        refine ⟨_, rfl, _, rfl, ta, _, _, _, rfl, rfl, .inl (.inl (sC _ _ htaB)), atI_nat (j := 0) rfl, _, _, rfl, rfl, pl + l.toNat, t + cost + c0, some (.ref ta), some (.ref sp), ?_, (sA.trans sB).trans sC, hcut⟩
        show _ = [some (V.ref a), some (.int few), some (.int cost), some (optV bits), some (.ref ca), some (.ref ta), some (.int ((pl + l.toNat : Nat) : Int)), some (.int (t + cost + c0)), some (.ref sp), none]
        rw [show ((pl + l.toNat : Nat) : Int) = (pl : Int) + l by omega]
        rfl
    · rintro σ HA ⟨pl, t, v5, v8, rfl, sA, hcc⟩
      rw [hxl, List.take_length] at hcc
      refine ⟨_, rfl, _, rfl, a, _, rfl, .inl ((s1.trans sA).seq hA.sq), rfl, _, rfl, ?_⟩
      have := q HA (s1.trans sA)
      rw [List.length_map, show decide (V.int ((pl : Nat) : Int) = V.int ((ns.length : Nat) : Int)) = decide (pl = ns.length) from dec_nat' _ _]
      rw [show cutT bits few cost ns (some cs) = if pl = ns.length then some t else none by unfold cutT; dsimp only; rw [hcc]] at this
      by_cases cp : pl = ns.length
      · rw [decide_eq_true cp]
        rw [if_pos cp] at this
        exact iteT ⟨_, rfl, this⟩
      · rw [decide_eq_false cp]
        rw [if_neg cp] at this
        exact iteF this
end
end My

namespace My
open PySem PySem.Spec PyProof.Rows L2 Pre
/-! ### the law's prices, papers -/
theorem last_int {ps : List Int} {n : Nat} (cl : ps.length = n + 1) : atI (ps.map V.int) (-1) = some (.int (ps.getD n 0)) := by
  obtain ⟨i, x, e⟩ : ∃ i x, ps = i ++ [x] := ⟨ps.dropLast, ps.getLast (fun z => by rw [z] at cl; cases cl), (List.dropLast_concat_getLast _).symm⟩
  have el : i.length = n := by rw [e, List.length_append] at cl; exact Nat.succ.inj cl
  rw [e, List.map_append]
  refine (atI_last _ _).trans ?_
  rw [List.getD_eq_getElem?_getD, List.getElem?_append_right (by omega), el, Nat.sub_self]
  rfl
theorem none_fm {α : Type} (ps : List α) : (ps.map fun _ => (none : Option V)).filterMap id = ([] : List Int).map V.int := by
  induction ps with
  | nil => rfl
  | cons x r ih => exact ih
local macro_rules | `(tactic| walk_at "go") => `(tactic| repeat (first | (with_reducible first | refine iteT ?_ | refine iteF ?_ | refine iteNtt ?_ | refine iteNff ?_ | refine iteET (by omega) ?_ | refine iteEF (by omega) ?_ | refine iteENT (by omega) ?_ | refine iteENF (by omega) ?_ | refine iteDT (by omega) ?_ | refine iteDF (by omega) ?_ | refine iteNT (by omega) ?_ | refine iteNF (by omega) ?_) | refine ⟨_, rfl, ?_⟩ | refine ⟨_, _, rfl, rfl, ?_⟩ | refine ⟨_, _, rfl, ?_⟩ | refine ⟨rfl, ?_⟩ | refine .inl ⟨_, rfl, ?_⟩ | refine .inr ⟨_, rfl, ?_⟩))
local macro_rules | `(tactic| walk_at "b") => `(tactic| try dsimp (config := { proj := false, iota := false, eta := false, zeta := false }) only)
section
variable {P : Program} {w : World} {K : PySem.W.Frag} {mg : Str → Option Value} {base : Heap}
def sp_law_prices_hold (K : PySem.W.Frag) : Sp := fun vs H Q _ => ∃ (a : Addr) (ns : List Int) (few : Nat) (cost : Int) (bits : Option Nat) (prv : V) (po : Option (List Int)), vs = [.ref a, .int few, .int cost, optV bits, prv] ∧ FoldsAt K H a ns ∧ PricesV K H prv po ∧ 1 ≤ few ∧ few ≤ 3 ∧ bits.getD 0 ≤ 100 ∧ ∀ H' r, Same H H' → (r = true ↔ ∃ ps, po = some ps ∧ ps.length = ns.length + 1 ∧ Hold bits few cost ns ps) → Q (.bl r) H'
theorem G_law_prices_hold (T : Top K mg) : FnOk P w K mg base CX0 3 T.f_law_prices_hold T.fd_law_prices_hold ["_law_folds", "_law_few", "_law_cost", "_law_bits", "_law_prices"] (sp_law_prices_hold K) := by
  refine T.F_law_prices_hold.ok sc_law_prices_hold (fun vs H Q E h => by obtain ⟨a, ns, few, cost, bits, prv, po, rfl, _⟩ := h; rfl) (fun cdv A outer s H vs Q E hr h => ?_)
  obtain ⟨a, ns, few, cost, bits, prv, po, rfl, hA, hp, hf, hf3, hbt, q⟩ := h
  refine ⟨_, PSs.nox (pss_cons (ps_if (PW.pt (pw_or (pt_not (pt_val (pe_callB (k_isi K rfl) (by rfl) T.n_isinstance (by decide +kernel) (pa_cons (pv 4) (pa_cons (pe_bltn (v := .ty "list") (by rfl) T.n_list (by decide +kernel) rfl) pa_nil))))) (pw_or1 (pt_cmpR op_ne (pe_callB (k_len K rfl) (by rfl) T.n_len (by decide +kernel) (pa_cons (pv 4) pa_nil)) (pe_op op_add (pe_callB (k_len K rfl) (by rfl) T.n_len (by decide +kernel) (pa_cons (pv 0) pa_nil)) pe_int) (nomark _)))))
    (pss_one (ps_ret pe_bl))
    pss_nil)
  (pss_cons (ps_if (pt_cmpR (k_neD K rfl hr.units) (pe_lc (own := [("_law_one", 7)]) (g := gName 7) (by rfl) sc_law_prices_hold.nd (k_piL K rfl (pv 4)) (blkOk_by (own := [("_law_one", 7)]) (N := N_law_prices_hold) (sc := defScope s_law_prices_hold) (by decide +kernel)) (fun _ _ _ _ _ => (pg_name (i := 7) sc_law_prices_hold.nd rfl (by first | exact Or.inl rfl | exact Or.inr rfl))) (fun _ _ _ _ _ => (pts_one (pt_not (pt_val (pe_call (G_law_whole T) (hr.mono (by decide)) (by rfl) T.g_law_whole T.F_law_whole.kp T.b_law_whole .nil pass0 (pa_cons (pv 7) (pa_cons pe_non pa_nil))))))) (fun _ _ _ _ _ => (pv 7))) (pe_lst pa_nil) (nomark _))
    (pss_one (ps_ret pe_bl))
    pss_nil)
  (pss_cons (ps_for PassesOwn.never rfl (pi_range1 (by rfl) T.n_range (pa_cons (pe_callB (k_len K rfl) (by rfl) T.n_len (by decide +kernel) (pa_cons (pv 0) pa_nil)) pa_nil)) (pg_name (i := 5) sc_law_prices_hold.nd rfl (by first | exact Or.inl rfl | exact Or.inr rfl))
    (pss_one (ps_for PassesOwn.never rfl (pi_range2 (by rfl) T.n_range (pa_cons (pe_op op_add (pv 5) (pv 1)) (pa_cons (pe_op op_add (pe_callB (k_len K rfl) (by rfl) T.n_len (by decide +kernel) (pa_cons (pv 0) pa_nil)) pe_int) pa_nil))) (pg_name (i := 6) sc_law_prices_hold.nd rfl (by first | exact Or.inl rfl | exact Or.inr rfl))
    (pss_one (ps_if (pt_cmpR op_gt (pe_op op_sub (pe_ix (k_ixL K rfl) (pv 4) (pv 6) (fun _ _ => rfl)) (pe_ix (k_ixL K rfl) (pv 4) (pv 5) (fun _ _ => rfl))) (pe_op op_add (pv 2) (pe_call (G_law_stretch T) (hr.mono (by decide)) (by rfl) T.g_law_stretch T.F_law_stretch.kp T.b_law_stretch .nil pass0 (pa_cons (pe_slice (k_slL K rfl) (pv 0) (po_some (pv 5)) (po_some (pv 6))) (pa_cons (pv 3) pa_nil)))) (nomark _))
    (pss_one (ps_ret pe_bl))
    pss_nil)))))
  (pss_one (ps_ret pe_bl))))), ?_⟩
  have hlen : (ns.map V.int).length = ns.length := List.length_map ..
  have hl1000 : ns.length ≤ 1000 := hA.2.2
  have no : (∀ ps, po = some ps → ps.length = ns.length + 1 → ¬ Hold bits few cost ns ps) → ∀ H', Same H H' → Q (.bl false) H' := fun n H' s' => q H' false s' ⟨(fun z => by cases z), fun ⟨ps, e, h1, h2⟩ => absurd h2 (n ps e h1)⟩
  cases po with
  | none =>
    obtain ⟨T1, ty, hT⟩ := hp
    exact ⟨_, rfl, _, _, _, _, false, rfl, .ty _, ty, kit_ty hT, false, rfl, iteT (no (fun ps e => by cases e) _ (Same.refl _))⟩
  | some ps =>
    obtain ⟨pp, rfl, hpp, hpl⟩ := hp
    refine ⟨_, rfl, _, _, _, _, true, rfl, .ty _, .base (.lst hpp), kit_ty (by decide +kernel), true, rfl, iteF ?_⟩
    refine ⟨_, rfl, pp, _, rfl, .inl (.inl (.inl hpp)), _, rfl, a, _, rfl, .inl hA.sq, _, _, rfl, rfl, rfl, _, rfl, ?_⟩
    rw [List.length_map, hlen]
    by_cases cl : ps.length = ns.length + 1
    rotate_left
    · exact iteENT (fun z => cl (by omega)) (no (fun ps' e z => by cases e; exact absurd z cl) _ (Same.refl _))
    refine iteENF (by omega) ?_
    have no : ¬ Hold bits few cost ns ps → ∀ H', Same H H' → Q (.bl false) H' := fun n => no fun ps' e _ => by cases e; exact n
    refine ⟨_, rfl, pp, rfl, ⟨_, .inl (.inl hpp)⟩, fun D nD => ?_⟩
    refine lc_selL (K := K) (a := pp) (xs := ps.map V.int) (ps.map fun _ => none) nD (.inl (.inl hpp)) (by rw [List.length_map, List.length_map]) (by rw [List.length_map, sizeLine_eq]; omega) (fun x => rfl) ?_ ?_
    · intro i y o H' hy ho s' Qt qt
      obtain ⟨n, hn, rfl⟩ := int_at hy
      rw [List.getElem?_map, hn] at ho
      cases ho
      exact ⟨_, rfl, .int n, none, rfl, .inl ⟨n, rfl, _, rfl, by rw [decide_eq_true (show ∀ j, (none : Option Int) = some j → j ≤ n from fun j h => by cases h)]; exact iteF (qt _ (Same.refl _))⟩⟩
    intro H4 s4 hD
    rw [none_fm] at hD
    refine ⟨(by show 0 ≤ sizeLine; decide), fun z nz => ?_⟩
    obtain ⟨H5, e5, s5, hz⟩ := fresh (.lst ([] : List V)) nz
    rw [e5]
    refine neD_lst (ms := []) (.inl (.inl (s5 _ _ hD))) (.inl (.inl hz)) ⟨_, rfl, ?_⟩
    rw [decide_eq_true rfl]
    refine iteF ?_
    have s05 := s4.trans s5
    have vgat : ∀ {b}, b ≤ ns.length → atI (ps.map V.int) ((b : Nat) : Int) = some (.int (ps.getD b 0)) := fun {b} hb => atI_nat (by
      rw [List.getElem?_map, List.getD_eq_getElem?_getD, List.getElem?_eq_getElem (by omega)]
      rfl)
    refine ⟨_, rfl, a, _, rfl, .inl (s05.seq hA.sq), _, rfl, by rw [hlen]; omega, by rw [hlen]; omega, ?_⟩
    rw [hlen, Int.toNat_natCast]
    refine for_range (lo := 0) (n := ns.length) (fun i σ HA => ∃ v5 v6 : Option V, σ = [some (.ref a), some (.int few), some (.int cost), some (optV bits), some (.ref pp), v5, v6, none] ∧ Same H HA ∧ ∀ b p, b < i → b + few ≤ p → p ≤ ns.length → ps.getD p 0 - ps.getD b 0 ≤ cost + strP bits (slc ns b p)) ⟨none, none, rfl, s05, fun b p h => absurd h (Nat.not_lt_zero b)⟩ ?_ ?_
    · rintro i σ HA hi ⟨v5, v6, rfl, sA, hall⟩
      rw [Int.zero_add]
      refine ⟨_, rfl, _, rfl, _, _, rfl, rfl, _, rfl, a, _, rfl, .inl (sA.seq hA.sq), _, _, rfl, rfl, ?_⟩
      have en : (((ns.length + 1 : Nat) : Int) - ((i : Int) + (few : Int))).toNat = ns.length + 1 - (i + few) := by omega
      refine ⟨(i : Int) + (few : Int), ((ns.length + 1 : Nat) : Int), by rw [hlen]; rfl, ⟨by omega, by omega, by omega, by omega⟩, ?_⟩
      rw [en]
      refine for_range (lo := (i : Int) + (few : Int)) (n := ns.length + 1 - (i + few)) (fun j σ HB => ∃ v6 : Option V, σ = [some (.ref a), some (.int few), some (.int cost), some (optV bits), some (.ref pp), some (.int (i : Nat)), v6, none] ∧ Same H HB ∧ ∀ p, i + few ≤ p → p < i + few + j → ps.getD p 0 - ps.getD i 0 ≤ cost + strP bits (slc ns i p)) ⟨v6, rfl, sA, fun p h1 h2 => by omega⟩ ?_ ?_
      · rintro j σ HB hj ⟨w6, rfl, sB, hin⟩
        rw [show (i : Int) + (few : Int) + (j : Int) = ((i + few + j : Nat) : Int) by omega]
        have hppB := sB _ _ hpp
        refine ⟨_, rfl, _, rfl, pp, _, _, _, rfl, rfl, .inl (.inl hppB), vgat (show i + few + j ≤ ns.length by omega), _, rfl, _, rfl, pp, _, _, _, rfl, rfl, .inl (.inl hppB), vgat (show i ≤ ns.length by omega), _, _, rfl, rfl, _, rfl, _, rfl, _, rfl, _, rfl, _, rfl, _, rfl, a, _, rfl, sB.seq hA.sq, fun sp nsp => ?_⟩
        rw [cut_slc' ns (show i ≤ i + few + j by omega)]
        obtain ⟨HD, eD, sD, hsp⟩ := fresh (.lst ((slc ns i (i + few + j)).map V.int)) nsp
        rw [eD]
        have hsl := slc_le (ns := ns) (b := i) (p := i + few + j)
        refine ⟨_, rfl, sp, _, bits, rfl, ⟨.inl hsp, fun y hy => hA.2.1 y (slc_sub hy), by omega⟩, hbt, fun HE sE => ?_⟩
        refine ⟨_, _, rfl, rfl, _, _, rfl, rfl, _, rfl, ?_⟩
        have sBE := sB.trans (sD.trans sE)
        by_cases c : cost + strP bits (slc ns i (i + few + j)) < ps.getD (i + few + j) 0 - ps.getD i 0
        · rw [show decide (cost + strP bits (slc ns i (i + few + j)) < ps.getD (i + few + j) 0 - ps.getD i 0) = true from decide_eq_true c]
          exact iteT (no (fun z => by have := z i (i + few + j) (by omega) (by omega); omega) _ sBE)
        · rw [show decide (cost + strP bits (slc ns i (i + few + j)) < ps.getD (i + few + j) 0 - ps.getD i 0) = false from decide_eq_false c]
          refine iteF ⟨_, rfl, sBE, fun p h1 h2 => ?_⟩
          by_cases d : p = i + few + j
          · subst d; omega
          · exact hin p h1 (by omega)
      · rintro σ HB ⟨w6, rfl, sB, hin⟩
        refine ⟨_, _, rfl, sB, fun b p h1 h2 h3 => ?_⟩
        by_cases d : b = i
        · subst d; exact hin p h2 (by omega)
        · exact hall b p (by omega) h2 h3
    · rintro σ HA ⟨v5, v6, rfl, sA, hall⟩
      exact q _ _ sA ⟨fun _ => ⟨ps, rfl, cl, fun b p h1 h2 => hall b p (by omega) h1 h2⟩, fun _ => rfl⟩
def sp_law_paper (K : PySem.W.Frag) : Sp := fun vs H Q _ => ∃ (a : Addr) (ns : List Int) (few : Nat) (cost : Int) (bits : Option Nat) (v : V) (pd : PD), vs = [.ref a, .int few, .int cost, optV bits, v] ∧ FoldsAt K H a ns ∧ bits.getD 0 ≤ 100 ∧ 1 ≤ few ∧ few ≤ 3 ∧ 0 ≤ cost ∧ PapV K H v pd ∧ ∀ H' r, Same H H' → (r = true ↔ Paper bits few cost ns pd) → Q (.bl r) H'
theorem G_law_paper (T : Top K mg) : FnOk P w K mg base CX0 4 T.f_law_paper T.fd_law_paper ["_law_folds", "_law_few", "_law_cost", "_law_bits", "_law_value"] (sp_law_paper K) := by
  refine T.F_law_paper.ok sc_law_paper (fun vs H Q E h => by obtain ⟨a, ns, few, cost, bits, v, pd, rfl, _⟩ := h; rfl) (fun cdv A outer s H vs Q E hr h => ?_)
  obtain ⟨a, ns, few, cost, bits, v, pd, rfl, hA, hbt, hf, hf3, hc, hp, q⟩ := h
  refine ⟨_, PSs.nox (pss_cons (ps_if (PW.pt (pw_or (pt_not (pt_val (pe_callB (k_isi K rfl) (by rfl) T.n_isinstance (by decide +kernel) (pa_cons (pv 4) (pa_cons (pe_bltn (v := .ty "tuple") (by rfl) T.n_tuple (by decide +kernel) rfl) pa_nil))))) (pw_or (pt_cmpR op_ne (pe_callB (k_len K rfl) (by rfl) T.n_len (by decide +kernel) (pa_cons (pv 4) pa_nil)) pe_int (nomark _)) (pw_or1 (pt_not (pt_val (pe_call (G_law_whole T) (hr.mono (by decide)) (by rfl) T.g_law_whole T.F_law_whole.kp T.b_law_whole .nil pass0 (pa_cons (pe_ix (k_ixT K rfl) (pv 4) pe_int (fun _ _ => rfl)) (pa_cons pe_non pa_nil)))))))))
    (pss_one (ps_ret pe_bl))
    pss_nil)
  (pss_cons (ps_if (pt_cmpR op_ne (pe_call (G_law_cuts_cost T) (hr.mono (by decide)) (by rfl) T.g_law_cuts_cost T.F_law_cuts_cost.kp T.b_law_cuts_cost .nil pass0 (pa_cons (pv 0) (pa_cons (pv 1) (pa_cons (pv 2) (pa_cons (pv 3) (pa_cons (pe_ix (k_ixT K rfl) (pv 4) pe_int (fun _ _ => rfl)) pa_nil)))))) (pe_ix (k_ixT K rfl) (pv 4) pe_int (fun _ _ => rfl)) (nomark _))
    (pss_one (ps_ret pe_bl))
    pss_nil)
  (pss_cons (ps_if (pt_not (pt_val (pe_call (G_law_prices_hold T) (hr.mono (by decide)) (by rfl) T.g_law_prices_hold T.F_law_prices_hold.kp T.b_law_prices_hold .nil pass0 (pa_cons (pv 0) (pa_cons (pv 1) (pa_cons (pv 2) (pa_cons (pv 3) (pa_cons (pe_ix (k_ixT K rfl) (pv 4) pe_int (fun _ _ => rfl)) pa_nil))))))))
    (pss_one (ps_ret pe_bl))
    pss_nil)
  (pss_one (ps_ret (pe_cmpR op_eq (pe_op op_sub (pe_ix (k_ixL K rfl) (pe_ix (k_ixT K rfl) (pv 4) pe_int (fun _ _ => rfl)) (pe_un un_neg pe_int) (fun _ _ => rfl)) (pe_ix (k_ixL K rfl) (pe_ix (k_ixT K rfl) (pv 4) pe_int (fun _ _ => rfl)) pe_int (fun _ _ => rfl))) (pe_ix (k_ixT K rfl) (pv 4) pe_int (fun _ _ => rfl)) (nomark _))))))), ?_⟩
  have no : ¬ Paper bits few cost ns pd → ∀ H', Same H H' → Q (.bl false) H' := fun n H' s' => q H' false s' ⟨(fun z => by cases z), fun z => absurd z n⟩
  cases pd with
  | none =>
    rcases hp with ⟨T1, ty, hT⟩ | ⟨va, xs, rfl, hva, hx3⟩
    · exact ⟨_, rfl, _, _, _, _, false, rfl, .ty _, ty, kit_ty hT, false, rfl, iteT (no (fun z => z) _ (Same.refl _))⟩
    · refine ⟨_, rfl, _, _, _, _, true, rfl, .ty _, .base (.tup hva), kit_ty (by decide +kernel), true, rfl, iteF ?_⟩
      exact ⟨_, rfl, va, _, rfl, .inr (.inl (.inl hva)), rfl, _, rfl, iteENT (by omega) (no (fun z => z) _ (Same.refl _))⟩
  | some pq =>
    obtain ⟨t, co, po⟩ := pq
    obtain ⟨va, cv, prv, rfl, hva, hcv, hpv⟩ := hp
    refine ⟨_, rfl, _, _, _, _, true, rfl, .ty _, .base (.tup hva), kit_ty (by decide +kernel), true, rfl, iteF ?_⟩
    refine ⟨_, rfl, va, _, rfl, .inr (.inl (.inl hva)), rfl, _, rfl, iteENF rfl ?_⟩
    refine ⟨_, rfl, va, _, _, _, rfl, rfl, .inl (.inl hva), atI_nat (j := 0) rfl, .int t, none, rfl, .inl ⟨t, rfl, _, rfl, ?_⟩⟩
    rw [decide_eq_true (show ∀ j, (none : Option Int) = some j → j ≤ t from fun j h => by cases h)]
    refine iteF ?_
    refine ⟨_, rfl, _, rfl, _, rfl, _, rfl, _, rfl, va, _, _, _, rfl, rfl, .inl (.inl hva), atI_nat (j := 1) rfl, a, ns, few, cost, bits, cv, co, rfl, hA, hcv, hf, hbt, fun H1 s1 => ?_⟩
    have hva1 := s1 _ _ hva
    refine ⟨_, rfl, va, _, _, _, rfl, rfl, .inl (.inl hva1), atI_nat (j := 0) rfl, ?_⟩
    have sc : scal (totV (cutT bits few cost ns co)) (V.int t) = true := by cases cutT bits few cost ns co <;> rfl
    refine ⟨sc, _, rfl, ?_⟩
    have ed : decide (totV (cutT bits few cost ns co) = V.int t) = decide (cutT bits few cost ns co = some t) := by
      cases cutT bits few cost ns co with
      | none => rfl
      | some y =>
        show decide (V.int y = V.int t) = _
        by_cases e : y = t
        · subst e; rw [decide_eq_true rfl, decide_eq_true rfl]
        · rw [decide_eq_false fun z => e (V.int.inj z), decide_eq_false fun z => e (Option.some.inj z)]
    rw [ed]
    by_cases ct : cutT bits few cost ns co = some t
    rotate_left
    · rw [decide_eq_false ct]
      refine iteT (no (fun z => ?_) _ s1)
      cases co with
      | none => cases po <;> exact z
      | some cs =>
        cases po with
        | none => exact z
        | some ps =>
          refine ct ?_
          unfold cutT
          dsimp only
          rw [z.1]
          exact if_pos rfl
    rw [decide_eq_true ct]
    refine iteF ?_
    obtain ⟨cs, rfl, hcc⟩ : ∃ cs, co = some cs ∧ ccF bits few cost ns 0 0 cs = some (ns.length, t) := by
      cases co with
      | none => cases ct
      | some cs =>
        unfold cutT at ct
        dsimp only at ct
        cases e : ccF bits few cost ns 0 0 cs with
        | none => rw [e] at ct; cases ct
        | some y =>
          obtain ⟨p, t'⟩ := y
          rw [e] at ct
          dsimp only at ct
          by_cases cp : p = ns.length
          · rw [if_pos cp] at ct
            cases ct
            exact ⟨cs, rfl, by rw [e, cp]⟩
          · rw [if_neg cp] at ct
            cases ct
    refine ⟨_, rfl, _, rfl, _, rfl, _, rfl, _, rfl, va, _, _, _, rfl, rfl, .inl (.inl hva1), atI_nat (j := 2) rfl, a, ns, few, cost, bits, prv, po, rfl, hA.same s1, hpv.same s1, hf, hf3, hbt, fun H2 r s2 hr => ⟨_, rfl, ?_⟩⟩
    have s02 := s1.trans s2
    cases r with
    | false =>
      refine iteT (no (fun z => ?_) _ s02)
      cases po with
      | none => exact z
      | some ps => have := hr.mpr ⟨ps, rfl, z.2.1, z.2.2.2⟩; cases this
    | true =>
      refine iteF ?_
      obtain ⟨ps, rfl, cl, hh⟩ := hr.mp rfl
      obtain ⟨pp, rfl, hpp, hpl⟩ := hpv.same s02
      have hva2 := s2 _ _ hva1
      have hfst : atI (ps.map V.int) 0 = some (.int (ps.getD 0 0)) := atI_nat (j := 0) (by
        rw [List.getElem?_map, List.getD_eq_getElem?_getD, List.getElem?_eq_getElem (by omega)]
        rfl)
      refine ⟨_, rfl, va, _, _, _, rfl, rfl, .inl (.inl hva2), atI_nat (j := 2) rfl, _, rfl, pp, _, _, _, rfl, rfl, .inl (.inl hpp), last_int cl, _, rfl, va, _, _, _, rfl, rfl, .inl (.inl hva2), atI_nat (j := 2) rfl, pp, _, _, _, rfl, rfl, .inl (.inl hpp), hfst, _, _, rfl, rfl, _, rfl, va, _, _, _, rfl, rfl, .inl (.inl hva2), atI_nat (j := 0) rfl, rfl, ?_⟩
      refine q _ _ s02 ?_
      rw [decide_eq_true_eq]
      exact ⟨fun z => ⟨hcc, cl, V.int.inj z, hh⟩, fun z => by show V.int (ps.getD ns.length 0 - ps.getD 0 0) = _; rw [z.2.2.1]⟩
end
end My

namespace My
open PySem PySem.Spec PyProof.Rows L2 Pre
/-! ### odd papers -/
def ItE (K : PySem.W.Frag) (H : Hp) (x : V) : Prop := ∃ c, ItemV K H x c
def CutE (K : PySem.W.Frag) (H : Hp) (v : V) : Prop := ∃ co, CutsV K H v co
def PriE (K : PySem.W.Frag) (H : Hp) (v : V) : Prop := ∃ po, PricesV K H v po
def PapE (K : PySem.W.Frag) (H : Hp) (v : V) : Prop := ∃ pd, PapV K H v pd
section
variable {K : PySem.W.Frag} {H H' : Hp}
theorem ItE.same {v : V} (h : ItE K H v) (s : Same H H') : ItE K H' v := h.imp fun _ z => z.same s
theorem CutE.same {v : V} (h : CutE K H v) (s : Same H H') : CutE K H' v := h.imp fun _ z => z.same s
theorem PriE.same {v : V} (h : PriE K H v) (s : Same H H') : PriE K H' v := h.imp fun _ z => z.same s
theorem PapE.same {v : V} (h : PapE K H v) (s : Same H H') : PapE K H' v := h.imp fun _ z => z.same s
theorem itE_tup {a : Addr} {l : Int} {w : V} {wv : WV} (h : H a = some (.tup [.int l, w])) (hw : WidV K H w wv) : ItE K H (.ref a) := ⟨some (l, wv), a, w, rfl, h, hw⟩
theorem itE_lst {a : Addr} {xs : List V} (h : H a = some (.lst xs)) : ItE K H (.ref a) := ⟨none, "list", .base (.lst h), by decide +kernel⟩
theorem wid_int (i : Int) : WidV K H (.int i) (some (some i)) := rfl
theorem wid_kd (k : Kd) : ∃ wv, WidV K H (kdV k) wv := by
  cases k with
  | none => exact ⟨some none, rfl⟩
  | some w => exact ⟨some (some (w : Int)), rfl⟩
theorem wid_bl (b : Bool) : WidV K H (.bl b) none := ⟨.inl ⟨b, rfl⟩, fun z => nomatch z⟩
theorem wid_str (x : Str) : WidV K H (.str x) none := ⟨.inr ⟨"str", .base (.str x), by decide +kernel⟩, fun z => nomatch z⟩
theorem cutE_lst {a : Addr} {xs : List V} (h : H a = some (.lst xs)) (hl : xs.length ≤ 1000) (hi : ∀ x ∈ xs, ItE K H x) : CutE K H (.ref a) := by
  have key : ∀ xs : List V, (∀ x ∈ xs, ItE K H x) → ∃ cs : List CI, xs.length = cs.length ∧ ∀ (i : Nat) (x : V) (c : CI), xs[i]? = some x → cs[i]? = some c → ItemV K H x c := by
    intro xs
    induction xs with
    | nil => exact fun _ => ⟨[], rfl, fun i x c h => by cases h⟩
    | cons y r ih =>
      intro hy
      obtain ⟨c0, h0⟩ := hy y List.mem_cons_self
      obtain ⟨cs, e, hc⟩ := ih fun x hx => hy x (List.mem_cons_of_mem _ hx)
      refine ⟨c0 :: cs, by rw [List.length_cons, List.length_cons, e], fun i x c h1 h2 => ?_⟩
      cases i with
      | zero => cases h1; cases h2; exact h0
      | succ i => exact hc i x c h1 h2
  obtain ⟨cs, e, hc⟩ := key xs hi
  exact ⟨some cs, a, xs, rfl, h, e, by omega, hc⟩
theorem cutE_tup {a : Addr} {xs : List V} (h : H a = some (.tup xs)) : CutE K H (.ref a) := ⟨none, "tuple", .base (.tup h), by decide +kernel⟩
theorem priE_lst {a : Addr} {xs : List V} {ks : List Int} (h : H a = some (.lst xs)) (e : xs = ks.map V.int) (hl : ks.length ≤ 1001) : PriE K H (.ref a) := ⟨some ks, a, rfl, by rw [h, e], hl⟩
theorem priE_tup {a : Addr} {xs : List V} (h : H a = some (.tup xs)) : PriE K H (.ref a) := ⟨none, "tuple", .base (.tup h), by decide +kernel⟩
theorem papE_tup {a : Addr} {t : Int} {cv pv : V} (h : H a = some (.tup [.int t, cv, pv])) (hc : CutE K H cv) (hp : PriE K H pv) : PapE K H (.ref a) := by
  obtain ⟨co, hc⟩ := hc
  obtain ⟨po, hp⟩ := hp
  exact ⟨some (t, co, po), a, cv, pv, rfl, h, hc, hp⟩
theorem papE_two {a : Addr} {xs : List V} (h : H a = some (.tup xs)) (hl : xs.length ≠ 3) : PapE K H (.ref a) := ⟨none, .inr ⟨a, xs, rfl, h, hl⟩⟩
theorem papE_lst {a : Addr} {xs : List V} (h : H a = some (.lst xs)) : PapE K H (.ref a) := ⟨none, .inl ⟨"list", .base (.lst h), by decide +kernel⟩⟩
theorem papE_non : PapE K H .non := ⟨none, .inl ⟨_, .base .non, by decide +kernel⟩⟩
theorem told_pap {v : V} {t : Int} {l : List (Nat × Kd)} {ps : List Int} (h : ToldV H v (some (t, l, ps))) (hl : l.length ≤ 1000) (hp : ps.length ≤ 1001) : PapV K H v (some (t, some (l.map ciK), some ps)) := by
  obtain ⟨a, cp, pp, rfl, h1, ⟨cs, hcs, hcl, hca⟩, hpp⟩ := h
  refine ⟨a, .ref cp, .ref pp, rfl, h1, ⟨cp, cs, rfl, hcs, by rw [List.length_map, hcl], by rw [List.length_map]; exact hl, fun i x c hx hc => ?_⟩, pp, rfl, hpp, hp⟩
  rw [List.getElem?_map] at hc
  obtain ⟨q, hq, rfl⟩ := Option.map_eq_some_iff.mp hc
  obtain ⟨u, rfl, hu⟩ := hca i x q hx hq
  refine ⟨u, _, rfl, hu, ?_⟩
  obtain ⟨n, k⟩ := q
  cases k <;> rfl
end
theorem newH {H H' : Hp} {a : Addr} {o : HO} (n : H a = none) (e : upd H a o = H') : Same H H' ∧ H' a = some o := by
  subst e
  exact ⟨same_upd n, upd_same⟩
/-- a heap without some things -/
def Msl (ds : List Addr) (H : Hp) : Hp := fun b => if b ∈ ds then none else H b
def Alive (ds : List Addr) (H : Hp) : Prop := ∀ d ∈ ds, ∃ o, H d = some o
section
variable {ds : List Addr} {H H' : Hp} {a m g : Addr} {o : HO}
theorem msl_same : Same (Msl ds H) H := fun b o h => by
  unfold Msl at h
  by_cases c : b ∈ ds
  · rw [if_pos c] at h; cases h
  · rwa [if_neg c] at h
theorem msl_in (h : Msl ds H a = some o) : a ∉ ds := fun c => by
  unfold Msl at h
  rw [if_pos c] at h
  cases h
theorem msl_at (h : H a = some o) (n : a ∉ ds) : Msl ds H a = some o := by
  unfold Msl
  rw [if_neg n, h]
theorem msl_mono (s : Same H H') : Same (Msl ds H) (Msl ds H') := fun b o h => msl_at (s b o (msl_same _ _ h)) (msl_in h)
theorem msl_but (hg : g ∈ ds) (b : But g H H') : Same (Msl ds H) (Msl ds H') := fun c o h => msl_at (b c o (fun z => msl_in h (by rw [z]; exact hg)) (msl_same _ _ h)) (msl_in h)
theorem Alive.same (h : Alive ds H) (s : Same H H') : Alive ds H' := fun d hd => by
  obtain ⟨o, e⟩ := h d hd
  exact ⟨o, s _ _ e⟩
theorem Alive.but (h : Alive ds H) (b : But g H H') (hg : ∃ o, H' g = some o) : Alive ds H' := fun d hd => by
  by_cases c : d = g
  · rw [c]; exact hg
  · obtain ⟨o, e⟩ := h d hd
    exact ⟨o, b _ _ c e⟩
theorem Alive.off (h : Alive ds H) (n : m ∉ ds) (b : But m H H') : Alive ds H' := fun d hd => by
  obtain ⟨o, e⟩ := h d hd
  exact ⟨o, b _ _ (fun z => n (by rw [← z]; exact hd)) e⟩
theorem Alive.nmem (h : Alive ds H) (n : H a = none) : a ∉ ds := fun c => by
  obtain ⟨o, e⟩ := h a c
  rw [n] at e
  cases e
theorem newM (n : H a = none) (hg : Alive ds H) (e : upd H a o = H') : Same H H' ∧ Same (Msl ds H) (Msl ds H') ∧ Msl ds H' a = some o ∧ Alive ds H' := by
  obtain ⟨s, h⟩ := newH n e
  exact ⟨s, msl_mono s, msl_at h (hg.nmem n), hg.same s⟩
theorem mm_but (b : But m H H') : Same (Msl (m :: ds) H) (Msl (m :: ds) H') := msl_but List.mem_cons_self b
theorem newMm (n : H a = none) (hm : ∃ o, H m = some o) (hg : Alive ds H) (e : upd H a o = H') : Same H H' ∧ Same (Msl (m :: ds) H) (Msl (m :: ds) H') ∧ Msl (m :: ds) H' a = some o ∧ (∃ o, H' m = some o) ∧ Alive ds H' := by
  obtain ⟨s, h⟩ := newH n e
  obtain ⟨om, hm⟩ := hm
  refine ⟨s, msl_mono s, msl_at h fun z => ?_, ⟨om, s _ _ hm⟩, hg.same s⟩
  rcases List.mem_cons.mp z with z | z
  · rw [z, hm] at n; cases n
  · exact hg.nmem n z
end
/-- a part of a list -/
theorem cutV_ints (ps : List Int) (i j : Option Int) : ∃ ks : List Int, cutV (ps.map V.int) i j = ks.map V.int ∧ ks.length ≤ ps.length := by
  unfold cutV
  exact ⟨(ps.drop (HT.sIx (ps.map V.int).length 0 i)).take (HT.sIx (ps.map V.int).length (ps.map V.int).length j - HT.sIx (ps.map V.int).length 0 i), by rw [List.map_take, List.map_drop], by rw [List.length_take, List.length_drop]; omega⟩
theorem cutV_sub {us : List V} {i j : Option Int} {x : V} (h : x ∈ cutV us i j) : x ∈ us := by
  unfold cutV at h
  exact List.mem_of_mem_drop (List.mem_of_mem_take h)
theorem cutV_len (us : List V) (i j : Option Int) : (cutV us i j).length ≤ us.length := by
  unfold cutV
  rw [List.length_take, List.length_drop]
  omega
/-- a list of papers -/
def MenuAt (K : PySem.W.Frag) (H M : Hp) (m : Addr) (k : Nat) : Prop := ∃ us, H m = some (.lst us) ∧ us.length = k ∧ ∀ u ∈ us, PapE K M u
/-- cuts that were told: pairs -/
def CutP (H : Hp) (cs : List V) : Prop := ∀ x ∈ cs, ∃ (t : Addr) (n : Nat) (k : Kd), x = .ref t ∧ H t = some (.tup [.int (n : Int), kdV k])
theorem CutP.same {H H' : Hp} {cs : List V} (h : CutP H cs) (s : Same H H') : CutP H' cs := fun x hx => by
  obtain ⟨t, n, k, e, ht⟩ := h x hx
  exact ⟨t, n, k, e, s _ _ ht⟩
theorem CutP.it {K : PySem.W.Frag} {H : Hp} {cs : List V} (h : CutP H cs) : ∀ x ∈ cs, ItE K H x := fun x hx => by
  obtain ⟨t, n, k, rfl, ht⟩ := h x hx
  obtain ⟨wv, hw⟩ := wid_kd (K := K) (H := H) k
  exact itE_tup ht hw
theorem CutL.cutP {H : Hp} {cp : Addr} {l : List (Nat × Kd)} (h : CutL H cp l) : ∃ cs, H cp = some (.lst cs) ∧ cs.length = l.length ∧ CutP H cs := by
  obtain ⟨cs, h1, h2, h3⟩ := h
  refine ⟨cs, h1, h2, fun x hx => ?_⟩
  obtain ⟨i, hi⟩ := List.getElem?_of_mem hx
  obtain ⟨q, hq⟩ : ∃ q, l[i]? = some q := ⟨_, List.getElem?_eq_getElem (by rw [← h2]; exact (List.getElem?_eq_some_iff.mp hi).1)⟩
  obtain ⟨t, e, ht⟩ := h3 i x q hi hq
  exact ⟨t, q.1, q.2, e, ht⟩
def MenuI (K : PySem.W.Frag) (m : Addr) (ds : List Addr) (H : Hp) (k : Nat) : Prop := ∃ us, H m = some (.lst us) ∧ us.length ≤ k ∧ (∀ u ∈ us, PapE K (Msl (m :: ds) H) u) ∧ 1 ≤ us.length
theorem MenuI.app {K : PySem.W.Frag} {m : Addr} {ds : List Addr} {H H2 H' : Hp} {k : Nat} {us : List V} {u : V} (hl : us.length ≤ k) (hu : ∀ x ∈ us, PapE K (Msl (m :: ds) H) x) (s : Same (Msl (m :: ds) H) (Msl (m :: ds) H2)) (nu : PapE K (Msl (m :: ds) H2) u) (e : upd H2 m (.lst (us ++ [u])) = H') : But m H2 H' ∧ MenuI K m ds H' (k + 1) := by
  have b : But m H2 H' := fun c o n h => by rw [← e, upd_ne n]; exact h
  have s2 := mm_but (ds := ds) b
  refine ⟨b, us ++ [u], by rw [← e]; exact upd_same, by rw [List.length_append]; show us.length + 1 ≤ _; omega, fun x hx => ?_, by rw [List.length_append]; show 1 ≤ us.length + 1; omega⟩
  rcases List.mem_append.mp hx with hx | hx
  · exact ((hu x hx).same s).same s2
  · rw [List.mem_singleton.mp hx]; exact nu.same s2
local macro_rules | `(tactic| walk_at "go") => `(tactic| repeat (first | (with_reducible first | refine iteT ?_ | refine iteF ?_ | refine iteNtt ?_ | refine iteNff ?_ | refine iteET (by omega) ?_ | refine iteEF (by omega) ?_ | refine iteENT (by omega) ?_ | refine iteENF (by omega) ?_ | refine iteDT (by omega) ?_ | refine iteDF (by omega) ?_ | refine iteNT (by omega) ?_ | refine iteNF (by omega) ?_) | refine ⟨_, rfl, ?_⟩ | refine ⟨_, _, rfl, rfl, ?_⟩ | refine ⟨_, _, rfl, ?_⟩ | refine ⟨rfl, ?_⟩ | refine .inl ⟨_, rfl, ?_⟩ | refine .inr ⟨_, rfl, ?_⟩))
local macro_rules | `(tactic| walk_at "b") => `(tactic| try dsimp (config := { proj := false, iota := false, eta := false, zeta := false }) only)
section
variable {P : Program} {w : World} {K : PySem.W.Frag} {mg : Str → Option Value} {base : Heap}
def sp_law_bent (K : PySem.W.Frag) : Sp := fun vs H Q _ => ∃ (g : Addr) (ds : List Addr) (fv v : V) (n : Nat) (x : Int × List (Nat × Kd) × List Int), vs = [.ref g, fv, v] ∧ g ∈ ds ∧ Alive ds H ∧ GenAt H g n ∧ n ≤ 10 ^ 8 ∧ ToldV (Msl ds H) v (some x) ∧ x.2.1.length ≤ 40 ∧ 1 ≤ x.2.2.length ∧ x.2.2.length ≤ 41 ∧ ∀ H' v', But g H H' → GenAt H' g (n + 400) → PapE K (Msl ds H') v' → Q v' H'
theorem G_law_bent (T : Top K mg) : FnOk P w K mg base CX0 3 T.f_law_bent T.fd_law_bent ["_law_generator_here", "_law_folds", "_law_value"] (sp_law_bent K) := by
  refine T.F_law_bent.ok sc_law_bent (fun vs H Q E h => by obtain ⟨g, ds, fv, v, n, x, rfl, _⟩ := h; rfl) (fun cdv A outer s H vs Q E hr h => ?_)
  obtain ⟨g, ds, fv, v, n, x, rfl, hgd, hds, hG, hn, hv, hcl, hp1, hp2, q⟩ := h
  refine ⟨_, PSs.nox (pss_cons (ps_asg (pv 2) (k_pgT K rfl (by rfl) (pgs_cons (pg_name (i := 6) sc_law_bent.nd rfl (by first | exact Or.inl rfl | exact Or.inr rfl)) (pgs_cons (pg_name (i := 7) sc_law_bent.nd rfl (by first | exact Or.inl rfl | exact Or.inr rfl)) (pgs_cons (pg_name (i := 8) sc_law_bent.nd rfl (by first | exact Or.inl rfl | exact Or.inr rfl)) pgs_nil)))))
  (pss_cons (ps_par (by rfl) sc_law_bent.nd (i := 9) (j := 10) rfl rfl (by decide) rfl rfl (pa_cons (pe_call (G_law_random T) (hr.mono (by decide)) (by rfl) T.g_law_random T.F_law_random.kp T.b_law_random .nil pass0 (pa_cons (pv 0) (pa_cons (pe_callB (call_max2 rfl) (by rfl) T.n_max (by decide +kernel) (pa_cons pe_int (pa_cons (pe_callB (k_len K rfl) (by rfl) T.n_len (by decide +kernel) (pa_cons (pv 7) pa_nil)) pa_nil))) pa_nil))) (pa_cons (pe_call (G_law_random T) (hr.mono (by decide)) (by rfl) T.g_law_random T.F_law_random.kp T.b_law_random .nil pass0 (pa_cons (pv 0) (pa_cons (pe_callB (k_len K rfl) (by rfl) T.n_len (by decide +kernel) (pa_cons (pv 8) pa_nil)) pa_nil))) pa_nil)) (by rfl))
  (pss_cons (ps_set (i := 3) sc_law_bent.nd rfl (by first | exact Or.inl rfl | exact Or.inr rfl) (pe_op op_sub pe_int (pe_op op_mul pe_int (pe_call (G_law_random T) (hr.mono (by decide)) (by rfl) T.g_law_random T.F_law_random.kp T.b_law_random .nil pass0 (pa_cons (pv 0) (pa_cons pe_int pa_nil))))))
  (pss_cons (ps_set (i := 4) sc_law_bent.nd rfl (by first | exact Or.inl rfl | exact Or.inr rfl) (pe_op op_cat (pe_op op_cat (pe_slice (k_slL K rfl) (pv 8) po_none (po_some (pv 10))) (pe_lst (pa_cons (pe_op op_add (pe_ix (k_ixL K rfl) (pv 8) (pv 10) (fun _ _ => rfl)) (pv 3)) pa_nil))) (pe_slice (k_slL K rfl) (pv 8) (po_some (pe_op op_add (pv 10) pe_int)) po_none)))
  (pss_cons (ps_set (i := 5) sc_law_bent.nd rfl (by first | exact Or.inl rfl | exact Or.inr rfl) (pe_lst (pa_cons (pe_tup (pa_cons (pe_op op_add (pv 6) (pv 3)) (pa_cons (pv 7) (pa_cons (pv 8) pa_nil)))) (pa_cons (pe_tup (pa_cons (pv 6) (pa_cons (pe_revL (pv 7)) (pa_cons (pv 8) pa_nil)))) (pa_cons (pe_tup (pa_cons (pv 6) (pa_cons (pe_slice (k_slL K rfl) (pv 7) po_none (po_some (pe_un un_neg pe_int))) (pa_cons (pv 8) pa_nil)))) (pa_cons (pe_tup (pa_cons (pv 6) (pa_cons (pv 7) (pa_cons (pv 4) pa_nil)))) pa_nil))))))
  (pss_cons (ps_set (i := 5) sc_law_bent.nd rfl (by first | exact Or.inl rfl | exact Or.inr rfl) (pe_op op_cat (pv 5) (pe_lst (pa_cons (pe_tup (pa_cons (pv 6) (pa_cons (pv 7) (pa_cons (pe_lc (own := [("_law_one", 14)]) (g := gName 14) (tt := tYes) (by rfl) sc_law_bent.nd (k_piL K rfl (pv 8)) (blkOk_by (own := [("_law_one", 14)]) (N := N_law_bent) (sc := defScope s_law_bent) (by decide +kernel)) (fun _ _ _ _ _ => (pg_name (i := 14) sc_law_bent.nd rfl (by first | exact Or.inl rfl | exact Or.inr rfl))) (fun _ _ _ _ _ => pts_nil) (fun _ _ _ _ _ => (pe_op op_add (pv 14) pe_int))) pa_nil)))) (pa_cons (pe_tup (pa_cons (pv 6) (pa_cons (pv 7) (pa_cons (pe_slice (k_slL K rfl) (pv 8) po_none (po_some (pe_un un_neg pe_int))) pa_nil)))) (pa_cons (pe_lst (pa_cons (pv 6) (pa_cons (pv 7) (pa_cons (pv 8) pa_nil)))) (pa_cons pe_non pa_nil)))))))
  (pss_cons (ps_set (i := 5) sc_law_bent.nd rfl (by first | exact Or.inl rfl | exact Or.inr rfl) (pe_op op_cat (pv 5) (pe_lst (pa_cons (pe_tup (pa_cons (pv 6) (pa_cons (pe_callTy (k_tupleOf K rfl) (by rfl) T.n_tuple (by decide +kernel) (pa_cons (pv 7) pa_nil)) (pa_cons (pv 8) pa_nil)))) (pa_cons (pe_tup (pa_cons (pv 6) (pa_cons (pv 7) (pa_cons (pe_callTy (k_tupleOf K rfl) (by rfl) T.n_tuple (by decide +kernel) (pa_cons (pv 8) pa_nil)) pa_nil)))) (pa_cons (pe_tup (pa_cons (pv 6) (pa_cons (pv 7) pa_nil))) pa_nil))))))
  (pss_cons (ps_set (i := 5) sc_law_bent.nd rfl (by first | exact Or.inl rfl | exact Or.inr rfl) (pe_op op_cat (pv 5) (pe_lst (pa_cons (pe_tup (pa_cons (pv 6) (pa_cons (pe_op op_cat (pe_lc (own := [("_law_length", 11), ("_law_width", 12)]) (g := gTup K 2 (gCons (gName 11) (gCons (gName 12) (gNil)))) (tt := tYes) (by rfl) sc_law_bent.nd (k_piL K rfl (pv 7)) (blkOk_by (own := [("_law_length", 11), ("_law_width", 12)]) (N := N_law_bent) (sc := defScope s_law_bent) (by decide +kernel)) (fun _ _ _ _ _ => (k_pgT K rfl (by rfl) (pgs_cons (pg_name (i := 11) sc_law_bent.nd rfl (by first | exact Or.inl rfl | exact Or.inr rfl)) (pgs_cons (pg_name (i := 12) sc_law_bent.nd rfl (by first | exact Or.inl rfl | exact Or.inr rfl)) pgs_nil)))) (fun _ _ _ _ _ => pts_nil) (fun _ _ _ _ _ => (pe_tup (pa_cons (pv 11) (pa_cons (pv 12) pa_nil))))) (pe_lst (pa_cons (pe_tup (pa_cons pe_int (pa_cons pe_int pa_nil))) pa_nil))) (pa_cons (pv 8) pa_nil)))) (pa_cons (pe_tup (pa_cons (pe_op op_add (pv 6) (pv 3)) (pa_cons (pv 7) (pa_cons (pv 4) pa_nil)))) pa_nil)))))
  (pss_cons (ps_for PassesOwn.never rfl (k_piL K rfl (pe_slice (k_slL K rfl) (pv 7) (po_some (pv 9)) (po_some (pe_op op_add (pv 9) pe_int)))) (k_pgT K rfl (by rfl) (pgs_cons (pg_name (i := 11) sc_law_bent.nd rfl (by first | exact Or.inl rfl | exact Or.inr rfl)) (pgs_cons (pg_name (i := 12) sc_law_bent.nd rfl (by first | exact Or.inl rfl | exact Or.inr rfl)) pgs_nil)))
    (pss_cons (ps_for PassesOwn.never rfl (k_piL K rfl (pe_lst (pa_cons pe_non (pa_cons pe_int (pa_cons pe_int (pa_cons pe_int (pa_cons pe_int (pa_cons pe_bl (pa_cons pe_str pa_nil))))))))) (pg_name (i := 13) sc_law_bent.nd rfl (by first | exact Or.inl rfl | exact Or.inr rfl))
    (pss_one (ps_expr (pe_bm PySem.F.plainAttrs_list PySem.F.slot_list_append PySem.F.type_list_append mt_append (pv 5) (pa_cons (pe_tup (pa_cons (pv 6) (pa_cons (pe_op op_cat (pe_op op_cat (pe_slice (k_slL K rfl) (pv 7) po_none (po_some (pv 9))) (pe_lst (pa_cons (pe_tup (pa_cons (pv 11) (pa_cons (pv 13) pa_nil))) pa_nil))) (pe_slice (k_slL K rfl) (pv 7) (po_some (pe_op op_add (pv 9) pe_int)) po_none)) (pa_cons (pv 8) pa_nil)))) pa_nil)))))
  (pss_cons (ps_expr (pe_bm PySem.F.plainAttrs_list PySem.F.slot_list_append PySem.F.type_list_append mt_append (pv 5) (pa_cons (pe_tup (pa_cons (pv 6) (pa_cons (pe_op op_cat (pe_op op_cat (pe_slice (k_slL K rfl) (pv 7) po_none (po_some (pv 9))) (pe_lst (pa_cons (pe_lst (pa_cons (pv 11) (pa_cons (pv 12) pa_nil))) pa_nil))) (pe_slice (k_slL K rfl) (pv 7) (po_some (pe_op op_add (pv 9) pe_int)) po_none)) (pa_cons (pv 8) pa_nil)))) pa_nil)))
  (pss_one (ps_expr (pe_bm PySem.F.plainAttrs_list PySem.F.slot_list_append PySem.F.type_list_append mt_append (pv 5) (pa_cons (pe_tup (pa_cons (pv 6) (pa_cons (pe_op op_cat (pe_op op_cat (pe_slice (k_slL K rfl) (pv 7) po_none (po_some (pv 9))) (pe_lst (pa_cons (pe_tup (pa_cons pe_int (pa_cons (pv 12) pa_nil))) (pa_cons (pe_tup (pa_cons (pe_op op_sub (pv 11) pe_int) (pa_cons (pv 12) pa_nil))) pa_nil)))) (pe_slice (k_slL K rfl) (pv 7) (po_some (pe_op op_add (pv 9) pe_int)) po_none)) (pa_cons (pv 8) pa_nil)))) pa_nil)))))))
  (pss_one (ps_ret (pe_ix (k_ixL K rfl) (pv 5) (pe_call (G_law_random T) (hr.mono (by decide)) (by rfl) T.g_law_random T.F_law_random.kp T.b_law_random .nil pass0 (pa_cons (pv 0) (pa_cons (pe_callB (k_len K rfl) (by rfl) T.n_len (by decide +kernel) (pa_cons (pv 5) pa_nil)) pa_nil))) (fun _ _ => rfl))))))))))))), ?_⟩
  obtain ⟨t, l, ps⟩ := x
  obtain ⟨va, cp, pp, rfl, hva, hcL, hpp⟩ := hv
  dsimp only at hcl hp1 hp2
  obtain ⟨cs, hcs, hcsl, hcP⟩ := hcL.cutP
  have mH : ∀ {H : Hp}, Same (Msl ds H) H := fun {H} => msl_same
  have hva' := mH _ _ hva
  refine ⟨_, rfl, va, _, rfl, .inl (.inl hva'), rfl, _, _, rfl, _, _, rfl, _, _, rfl, rfl, ?_⟩
  have hcl' : cs.length ≤ 40 := by omega
  refine ⟨_, rfl, _, rfl, cp, _, rfl, .inl (.inl (.inl (mH _ _ hcs))), _, _, rfl, ?_⟩
  refine ⟨g, _, n, rfl, hG, by omega, by split <;> omega, small_2900 (by split <;> omega), fun d1 H1 d10 d11 hG1 b1 => ?_⟩
  have sM1 := msl_but hgd b1
  refine ⟨_, rfl, _, rfl, pp, _, rfl, .inl (.inl (.inl (mH _ _ (sM1 _ _ hpp)))), ?_⟩
  rw [List.length_map]
  refine ⟨g, _, _, rfl, hG1, by omega, by omega, small_2900 (by omega), fun d2 H2 d20 d21 hG2 b2 => ?_⟩
  have sM2 := sM1.trans (msl_but hgd b2)
  refine ⟨_, _, rfl, ?_⟩
  refine ⟨_, rfl, g, 2, _, rfl, hG2, by omega, by decide, small_2900 (by decide), fun d3 H3 d30 d31 hG3 b3 => ?_⟩
  have sM3 := sM2.trans (msl_but hgd b3)
  have b03 := (b1.trans b2).trans b3
  have g3 : Alive ds H3 := hds.but b03 (by obtain ⟨_, _, _, h, _⟩ := hG3; exact ⟨_, h⟩)
  refine ⟨_, _, rfl, rfl, .inl ⟨by decide, by decide⟩, _, _, rfl, rfl, ?_⟩
  obtain ⟨more, hmore⟩ : ∃ more, (1 : Int) - 2 * d3 = more := ⟨_, rfl⟩
  dsimp only
  rw [hmore]
  have hpp3 := mH _ _ (sM3 _ _ hpp)
  have hcs3 := mH _ _ (sM3 _ _ hcs)
  have hcP3 := hcP.same sM3
  obtain ⟨f2, rfl⟩ : ∃ f2 : Nat, d2 = (f2 : Int) := ⟨d2.toNat, by omega⟩
  obtain ⟨f1, rfl⟩ : ∃ f1 : Nat, d1 = (f1 : Int) := ⟨d1.toNat, by omega⟩
  have hf2 : f2 < ps.length := by omega
  have hat2 : atI (ps.map V.int) ((f2 : Nat) : Int) = some (.int (ps.getD f2 0)) := atI_nat (by
    rw [List.getElem?_map, List.getD_eq_getElem?_getD, List.getElem?_eq_getElem hf2]
    rfl)
  refine asg_join (fun v H4 => ∃ mv, v = .ref mv ∧ Same H3 H4 ∧ ∃ ks : List Int, Msl ds H4 mv = some (.lst (ks.map V.int)) ∧ ks.length ≤ 100) (fun Q' hQ' => ?_) ?_
  · obtain ⟨k1, e1, l1⟩ := cutV_ints ps none (some (f2 : Int))
    obtain ⟨k2, e2, l2⟩ := cutV_ints ps (some ((f2 : Int) + 1)) none
    refine ⟨_, rfl, _, rfl, _, rfl, pp, _, rfl, .inl (.inl hpp3), fun p1 n1 => ?_⟩
    generalize e0 : upd _ p1 _ = H4
    obtain ⟨s4, h4⟩ := newH n1 e0
    rw [e1] at h4
    refine ⟨_, rfl, _, rfl, pp, _, _, _, rfl, rfl, .inl (.inl (s4 _ _ hpp3)), hat2, _, rfl, _, _, rfl, rfl, (by show 1 ≤ sizeLine; decide), fun p2 n2 => ?_⟩
    generalize e0 : upd _ p2 _ = H5
    obtain ⟨s5, h5⟩ := newH n2 e0
    refine ⟨p1, p2, _, _, rfl, rfl, s5 _ _ h4, h5, by rw [List.length_map, sizeLine_eq]; show k1.length + 1 ≤ _; omega, fun p3 n3 => ?_⟩
    generalize e0 : upd _ p3 _ = H6
    obtain ⟨s6, h6⟩ := newH n3 e0
    refine ⟨_, rfl, _, rfl, _, _, rfl, rfl, _, rfl, pp, _, rfl, .inl (.inl (s6 _ _ (s5 _ _ (s4 _ _ hpp3)))), fun p4 n4 => ?_⟩
    generalize e0 : upd _ p4 _ = H7
    obtain ⟨s7, h7⟩ := newH n4 e0
    rw [e2] at h7
    refine ⟨p3, p4, _, _, rfl, rfl, s7 _ _ h6, h7, by rw [List.length_append, List.length_map, List.length_map, sizeLine_eq]; show k1.length + 1 + k2.length ≤ _; omega, fun p5 n5 => ?_⟩
    generalize e0 : upd _ p5 _ = H8
    obtain ⟨s8, h8⟩ := newH n5 e0
    have s38 := s4.trans (s5.trans (s6.trans (s7.trans s8)))
    have hG8 := hG3.same s38
    have ng : p5 ∉ ds := (g3.same (s4.trans (s5.trans (s6.trans s7)))).nmem n5
    refine hQ' _ _ ⟨p5, rfl, s38, k1 ++ [ps.getD f2 0 + more] ++ k2, msl_at (by rw [h8, List.map_append, List.map_append]; rfl) ng, ?_⟩
    rw [List.length_append, List.length_append]
    show k1.length + 1 + k2.length ≤ _
    omega
  rintro _ H4 ⟨mv, rfl, s4, ks, hmv, hkl⟩
  have hG4 := hG3.same s4
  have g4 := g3.same s4
  have k34 : Same (Msl ds H3) (Msl ds H4) := msl_mono s4
  have hpp4 := k34 _ _ (sM3 _ _ hpp)
  have hcs4 := k34 _ _ (sM3 _ _ hcs)
  have hcP4 := hcP3.same k34
  have pr : ∀ {H : Hp}, Same (Msl ds H4) H → PriE K H (.ref pp) := fun {H} k => priE_lst (k _ _ hpp4) rfl (by omega)
  have cu : ∀ {H : Hp}, Same (Msl ds H4) H → CutE K H (.ref cp) := fun {H} k => cutE_lst (k _ _ hcs4) (by omega) fun x hx => ((hcP4.same k).it x hx)
  have ml : ∀ {H : Hp}, Same (Msl ds H4) H → PriE K H (.ref mv) := fun {H} k => priE_lst (k _ _ hmv) rfl (by omega)
  clear hpp3 hcs3 hcP3 hat2
  -- the first four
  show tSeq (tAsg _ _) _ _ [some (V.ref g), some fv, some (V.ref va), some (V.int more), some (V.ref mv), none, some (V.int t), some (V.ref cp), some (V.ref pp), some (V.int f1), some (V.int f2), none, none, none, none] _
  refine asg_join (fun v H' => ∃ m, v = .ref m ∧ Same H4 H' ∧ MenuAt K H' (Msl ds H') m 4) (fun Q' hQ' => ?_) ?_
  · refine ⟨_, rfl, _, rfl, _, _, rfl, rfl, _, rfl, _, rfl, (by show 3 ≤ sizeLine; decide), fun u1 n1 => ?_⟩
    generalize e0 : upd _ u1 _ = H5
    obtain ⟨s5, k5, h5, g5⟩ := newM n1 g4 e0
    refine ⟨_, rfl, _, rfl, cp, _, rfl, .inl (.inl (mH _ _ (k5 _ _ hcs4))), fun rp n2 => ?_⟩
    generalize e0 : upd _ rp _ = H6
    obtain ⟨s6, k6, h6, g6⟩ := newM n2 g5 e0
    refine ⟨_, rfl, (by show 3 ≤ sizeLine; decide), fun u2 n3 => ?_⟩
    generalize e0 : upd _ u2 _ = H7
    obtain ⟨s7, k7, h7, g7⟩ := newM n3 g6 e0
    have k47 := k5.trans (k6.trans k7)
    refine ⟨_, rfl, _, rfl, _, rfl, _, rfl, cp, _, rfl, .inl (.inl (mH _ _ (k47 _ _ hcs4))), fun sp n4 => ?_⟩
    generalize e0 : upd _ sp _ = H8
    obtain ⟨s8, k8, h8, g8⟩ := newM n4 g7 e0
    refine ⟨_, rfl, (by show 3 ≤ sizeLine; decide), fun u3 n5 => ?_⟩
    generalize e0 : upd _ u3 _ = H9
    obtain ⟨s9, k9, h9, g9⟩ := newM n5 g8 e0
    refine ⟨_, rfl, _, rfl, _, rfl, (by show 3 ≤ sizeLine; decide), fun u4 n6 => ?_⟩
    generalize e0 : upd _ u4 _ = HA
    obtain ⟨sA, kA, hA, gA⟩ := newM n6 g9 e0
    refine ⟨(by show 4 ≤ sizeLine; decide), fun m n7 => ?_⟩
    generalize e0 : upd _ m _ = HB
    obtain ⟨sB, kB, hB, gB⟩ := newM n7 gA e0
    have k4B := k47.trans (k8.trans (k9.trans (kA.trans kB)))
    refine hQ' _ _ ⟨m, rfl, s5.trans (s6.trans (s7.trans (s8.trans (s9.trans (sA.trans sB))))), _, mH _ _ hB, rfl, ?_⟩
    have c4 := hcP4.same k4B
    intro u hu
    rcases List.mem_cons.mp hu with rfl | hu
    · exact papE_tup ((k6.trans (k7.trans (k8.trans (k9.trans (kA.trans kB))))) _ _ h5) (cu k4B) (pr k4B)
    rcases List.mem_cons.mp hu with rfl | hu
    · refine papE_tup ((k8.trans (k9.trans (kA.trans kB))) _ _ h7) (cutE_lst ((k7.trans (k8.trans (k9.trans (kA.trans kB)))) _ _ h6) (by rw [List.length_reverse]; omega) fun x hx => c4.it x (List.mem_reverse.mp hx)) (pr k4B)
    rcases List.mem_cons.mp hu with rfl | hu
    · refine papE_tup ((kA.trans kB) _ _ h9) (cutE_lst ((k9.trans (kA.trans kB)) _ _ h8) (by have := cutV_len cs none (some (-1)); omega) fun x hx => c4.it x (cutV_sub hx)) (pr k4B)
    rw [List.mem_singleton.mp hu]
    exact papE_tup (kB _ _ hA) (cu k4B) (ml k4B)
  rintro _ H5 ⟨m1, rfl, s5, hm5⟩
  have k5 := msl_mono (ds := ds) s5
  have g5 := g4.same s5
  -- four more
  show tSeq (tAsg _ _) _ _ [some (V.ref g), some fv, some (V.ref va), some (V.int more), some (V.ref mv), some (V.ref m1), some (V.int t), some (V.ref cp), some (V.ref pp), some (V.int f1), some (V.int f2), none, none, none, none] _
  refine asg_join (fun v H' => ∃ m, v = .ref m ∧ Same H5 H' ∧ MenuAt K H' (Msl ds H') m 8) (fun Q' hQ' => ?_) ?_
  · obtain ⟨us, hus, hul, hup⟩ := hm5
    refine ⟨_, rfl, _, rfl, _, rfl, _, rfl, pp, rfl, ⟨_, .inl (.inl (mH _ _ (k5 _ _ hpp4)))⟩, fun D nD => ?_⟩
    refine lc_mapL (K := K) (a := pp) (xs := ps.map V.int) ((ps.map (· + 7)).map V.int) nD (.inl (.inl (mH _ _ (k5 _ _ hpp4)))) (by rw [List.length_map, List.length_map, List.length_map]) (by rw [List.length_map, sizeLine_eq]; omega) (fun x => rfl) ?_ ?_
    · intro i x y H' hx hy s Qt qt
      obtain ⟨n, hn, rfl⟩ := int_at hx
      rw [List.getElem?_map, List.getElem?_map, hn] at hy
      cases hy
      exact ⟨_, rfl, _, _, rfl, rfl, qt _ (Same.refl _)⟩
    intro H6 s6 hD
    have k6 := msl_mono (ds := ds) s6
    have g6 := g5.same s6
    have h6 := msl_at hD (g5.nmem nD)
    refine ⟨(by show 3 ≤ sizeLine; decide), fun u1 n1 => ?_⟩
    generalize e0 : upd _ u1 _ = H7
    obtain ⟨s7, k7, h7, g7⟩ := newM n1 g6 e0
    have k57 := k6.trans k7
    refine ⟨_, rfl, _, rfl, _, rfl, _, rfl, _, rfl, pp, _, rfl, .inl (.inl (mH _ _ (k57 _ _ (k5 _ _ hpp4)))), fun sp n2 => ?_⟩
    generalize e0 : upd _ sp _ = H8
    obtain ⟨s8, k8, h8, g8⟩ := newM n2 g7 e0
    obtain ⟨kk, ek, lk⟩ := cutV_ints ps none (some (-1))
    refine ⟨(by show 3 ≤ sizeLine; decide), fun u2 n3 => ?_⟩
    generalize e0 : upd _ u2 _ = H9
    obtain ⟨s9, k9, h9, g9⟩ := newM n3 g8 e0
    refine ⟨_, rfl, _, rfl, _, rfl, (by show 3 ≤ sizeLine; decide), fun u3 n4 => ?_⟩
    generalize e0 : upd _ u3 _ = HA
    obtain ⟨sA, kA, hA, gA⟩ := newM n4 g9 e0
    refine ⟨(by show 4 ≤ sizeLine; decide), fun l1 n5 => ?_⟩
    generalize e0 : upd _ l1 _ = HB
    obtain ⟨sB, kB, hB, gB⟩ := newM n5 gA e0
    have s5B := s6.trans (s7.trans (s8.trans (s9.trans (sA.trans sB))))
    refine ⟨m1, l1, _, _, rfl, rfl, s5B _ _ hus, mH _ _ hB, by rw [hul, sizeLine_eq]; show 4 + 4 ≤ _; omega, fun m n6 => ?_⟩
    generalize e0 : upd _ m _ = HC
    obtain ⟨sC, kC, hC, gC⟩ := newM n6 gB e0
    have k5C := k57.trans (k8.trans (k9.trans (kA.trans (kB.trans kC))))
    have k4C := k5.trans k5C
    refine hQ' _ _ ⟨m, rfl, s5B.trans sC, _, mH _ _ hC, by rw [List.length_append, hul]; rfl, ?_⟩
    intro u hu
    rcases List.mem_append.mp hu with hu | hu
    · exact (hup u hu).same k5C
    rcases List.mem_cons.mp hu with rfl | hu
    · exact papE_tup ((k8.trans (k9.trans (kA.trans (kB.trans kC)))) _ _ h7) (cu k4C) (priE_lst ((k7.trans (k8.trans (k9.trans (kA.trans (kB.trans kC))))) _ _ h6) rfl (by rw [List.length_map]; omega))
    rcases List.mem_cons.mp hu with rfl | hu
    · exact papE_tup ((kA.trans (kB.trans kC)) _ _ h9) (cu k4C) (priE_lst ((k9.trans (kA.trans (kB.trans kC))) _ _ h8) ek (by omega))
    rcases List.mem_cons.mp hu with rfl | hu
    · exact papE_lst ((kB.trans kC) _ _ hA)
    rw [List.mem_singleton.mp hu]
    exact papE_non
  rintro _ H6 ⟨m2, rfl, s6, hm6⟩
  have k6 := k5.trans (msl_mono (ds := ds) s6)
  have g6 := g5.same s6
  -- tuples for lists
  show tSeq (tAsg _ _) _ _ [some (V.ref g), some fv, some (V.ref va), some (V.int more), some (V.ref mv), some (V.ref m2), some (V.int t), some (V.ref cp), some (V.ref pp), some (V.int f1), some (V.int f2), none, none, none, none] _
  refine asg_join (fun v H' => ∃ m, v = .ref m ∧ Same H6 H' ∧ MenuAt K H' (Msl ds H') m 11) (fun Q' hQ' => ?_) ?_
  · obtain ⟨us, hus, hul, hup⟩ := hm6
    refine ⟨_, rfl, _, rfl, _, rfl, cp, _, rfl, .inl ⟨.inl (.inl (mH _ _ (k6 _ _ hcs4))), fun ct n1 => ?_⟩⟩
    generalize e0 : upd _ ct _ = H7
    obtain ⟨s7, k7, h7, g7⟩ := newM n1 g6 e0
    refine ⟨_, rfl, (by show 3 ≤ sizeLine; decide), fun u1 n2 => ?_⟩
    generalize e0 : upd _ u1 _ = H8
    obtain ⟨s8, k8, h8, g8⟩ := newM n2 g7 e0
    refine ⟨_, rfl, _, rfl, _, rfl, pp, _, rfl, .inl ⟨.inl (.inl (mH _ _ ((k7.trans k8) _ _ (k6 _ _ hpp4)))), fun pt n3 => ?_⟩⟩
    generalize e0 : upd _ pt _ = H9
    obtain ⟨s9, k9, h9, g9⟩ := newM n3 g8 e0
    refine ⟨(by show 3 ≤ sizeLine; decide), fun u2 n4 => ?_⟩
    generalize e0 : upd _ u2 _ = HA
    obtain ⟨sA, kA, hA, gA⟩ := newM n4 g9 e0
    refine ⟨_, rfl, _, rfl, (by show 2 ≤ sizeLine; decide), fun u3 n5 => ?_⟩
    generalize e0 : upd _ u3 _ = HB
    obtain ⟨sB, kB, hB, gB⟩ := newM n5 gA e0
    refine ⟨(by show 3 ≤ sizeLine; decide), fun l1 n6 => ?_⟩
    generalize e0 : upd _ l1 _ = HC
    obtain ⟨sC, kC, hC, gC⟩ := newM n6 gB e0
    have s6C := s7.trans (s8.trans (s9.trans (sA.trans (sB.trans sC))))
    refine ⟨m2, l1, _, _, rfl, rfl, s6C _ _ hus, mH _ _ hC, by rw [hul, sizeLine_eq]; show 8 + 3 ≤ _; omega, fun m n7 => ?_⟩
    generalize e0 : upd _ m _ = HD
    obtain ⟨sD, kD, hD, gD⟩ := newM n7 gC e0
    have k6D := k7.trans (k8.trans (k9.trans (kA.trans (kB.trans (kC.trans kD)))))
    have k4D := k6.trans k6D
    refine hQ' _ _ ⟨m, rfl, s6C.trans sD, _, mH _ _ hD, by rw [List.length_append, hul]; rfl, ?_⟩
    intro u hu
    rcases List.mem_append.mp hu with hu | hu
    · exact (hup u hu).same k6D
    rcases List.mem_cons.mp hu with rfl | hu
    · exact papE_tup ((k9.trans (kA.trans (kB.trans (kC.trans kD)))) _ _ h8) (cutE_tup ((k8.trans (k9.trans (kA.trans (kB.trans (kC.trans kD))))) _ _ h7)) (pr k4D)
    rcases List.mem_cons.mp hu with rfl | hu
    · exact papE_tup ((kB.trans (kC.trans kD)) _ _ hA) (cu k4D) (priE_tup ((kA.trans (kB.trans (kC.trans kD))) _ _ h9))
    rw [List.mem_singleton.mp hu]
    exact papE_two ((kC.trans kD) _ _ hB) (by show 2 ≠ 3; decide)
  rintro _ H7 ⟨m3, rfl, s7, hm7⟩
  have k7 := k6.trans (msl_mono (ds := ds) s7)
  have g7 := g6.same s7
  -- a length of nought, a price moved
  show tSeq (tAsg _ _) _ _ [some (V.ref g), some fv, some (V.ref va), some (V.int more), some (V.ref mv), some (V.ref m3), some (V.int t), some (V.ref cp), some (V.ref pp), some (V.int f1), some (V.int f2), none, none, none, none] _
  refine asg_join (fun v H' => ∃ m, v = .ref m ∧ Same H7 H' ∧ H7 m = none ∧ MenuAt K H' (Msl (m :: ds) H') m 13) (fun Q' hQ' => ?_) ?_
  · obtain ⟨us, hus, hul, hup⟩ := hm7
    refine ⟨_, rfl, _, rfl, _, rfl, cp, rfl, ⟨_, .inl (.inl (mH _ _ (k7 _ _ hcs4)))⟩, fun D nD => ?_⟩
    refine lc_list (K := K) (a := cp) (xs := cs) (fun i H => Same H7 H ∧ ∃ ys, H D = some (.lst ys) ∧ ys.length = i ∧ CutP (Msl ds H) ys) ⟨same_upd nD, [], upd_same, rfl, fun x h => nomatch h⟩ (fun i H _ p => .inl (.inl (p.1 _ _ (mH _ _ (k7 _ _ hcs4))))) ?_ ?_
    · rintro i x H hx ⟨sH, ys, hD, hyl, hyp⟩
      obtain ⟨tt, nn, kd, rfl, htt⟩ := hcP4 x (List.mem_of_getElem? hx)
      have hil : i < cs.length := (List.getElem?_eq_some_iff.mp hx).1
      have httH := sH _ _ (mH _ _ (k7 _ _ htt))
      refine ⟨tt, _, rfl, .inl (.inl httH), rfl, _, _, rfl, _, _, rfl, rfl, rfl, ?_⟩
      unfold tYes
      dsimp only
      rw [if_pos (show true = true from rfl)]
      refine ⟨_, rfl, _, rfl, (by show 2 ≤ sizeLine; decide), fun u nu => ?_⟩
      generalize e0 : upd _ u _ = H8
      obtain ⟨s8, h8⟩ := newH nu e0
      have nD8 : ∀ {b o}, (H7 b = some o) → b ≠ D := fun h z => by rw [z, nD] at h; cases h
      refine ⟨ys, s8 _ _ hD, by rw [hyl, sizeLine_eq]; omega, fun b o h => ?_, ys ++ [.ref u], upd_same, by rw [List.length_append, hyl]; rfl, fun y hy => ?_⟩
      · rw [upd_ne (nD8 h)]
        exact s8 _ _ (sH _ _ h)
      · rcases List.mem_append.mp hy with hy | hy
        · obtain ⟨t', n', k', e', ht'⟩ := hyp y hy
          have h1 := msl_same _ _ ht'
          exact ⟨t', n', k', e', msl_at (by rw [upd_ne fun z => by rw [z, hD] at h1; cases h1]; exact s8 _ _ h1) (msl_in ht')⟩
        · rw [List.mem_singleton.mp hy]
          exact ⟨u, nn, kd, rfl, msl_at (by rw [upd_ne fun z => by rw [z, s8 _ _ hD] at h8; cases h8]; exact h8) ((g7.same sH).nmem nu)⟩
    rintro H8 ⟨s8, ys, hD, hyl, hyp⟩
    have k8 := msl_mono (ds := ds) s8
    have g8 := g7.same s8
    have h8 := msl_at hD (g7.nmem nD)
    refine ⟨(by show 2 ≤ sizeLine; decide), fun z0 n1 => ?_⟩
    generalize e0 : upd _ z0 _ = H9
    obtain ⟨s9, k9, h9, g9⟩ := newM n1 g8 e0
    refine ⟨(by show 1 ≤ sizeLine; decide), fun lz n2 => ?_⟩
    generalize e0 : upd _ lz _ = HA
    obtain ⟨sA, kA, hA, gA⟩ := newM n2 g9 e0
    refine ⟨D, lz, _, _, rfl, rfl, sA _ _ (s9 _ _ hD), mH _ _ hA, by rw [hyl, sizeLine_eq]; show cs.length + 1 ≤ _; omega, fun jl n3 => ?_⟩
    generalize e0 : upd _ jl _ = HB
    obtain ⟨sB, kB, hB, gB⟩ := newM n3 gA e0
    refine ⟨_, rfl, (by show 3 ≤ sizeLine; decide), fun u1 n4 => ?_⟩
    generalize e0 : upd _ u1 _ = HC
    obtain ⟨sC, kC, hC, gC⟩ := newM n4 gB e0
    refine ⟨_, rfl, _, rfl, _, _, rfl, rfl, _, rfl, _, rfl, (by show 3 ≤ sizeLine; decide), fun u2 n5 => ?_⟩
    generalize e0 : upd _ u2 _ = HD
    obtain ⟨sD, kD, hD2, gD⟩ := newM n5 gC e0
    refine ⟨(by show 2 ≤ sizeLine; decide), fun l1 n6 => ?_⟩
    generalize e0 : upd _ l1 _ = HE
    obtain ⟨sE, kE, hE, gE⟩ := newM n6 gD e0
    have s7E := s8.trans (s9.trans (sA.trans (sB.trans (sC.trans (sD.trans sE)))))
    refine ⟨m3, l1, _, _, rfl, rfl, s7E _ _ hus, mH _ _ hE, by rw [hul, sizeLine_eq]; show 11 + 2 ≤ _; omega, fun m n7 => ?_⟩
    generalize e0 : upd _ m _ = HF
    obtain ⟨sF, hF⟩ := newH n7 e0
    have k7E := k8.trans (k9.trans (kA.trans (kB.trans (kC.trans (kD.trans kE)))))
    have k4E := k7.trans k7E
    have kF : Same (Msl ds HE) (Msl (m :: ds) HF) := fun b o h => by
      have h1 := msl_same _ _ h
      refine msl_at (sF _ _ h1) fun z => ?_
      rcases List.mem_cons.mp z with z | z
      · rw [z, n7] at h1; cases h1
      · exact msl_in h z
    refine hQ' _ _ ⟨m, rfl, s7E.trans sF, none_back s7E n7, _, hF, by rw [List.length_append, hul]; rfl, ?_⟩
    intro u hu
    refine PapE.same ?_ kF
    rcases List.mem_append.mp hu with hu | hu
    · exact (hup u hu).same k7E
    have hjl := (kC.trans (kD.trans kE)) _ _ hB
    have hz0 := (kA.trans (kB.trans (kC.trans (kD.trans kE)))) _ _ h9
    rcases List.mem_cons.mp hu with rfl | hu
    · refine papE_tup ((kD.trans kE) _ _ hC) (cutE_lst hjl (by rw [List.length_append, hyl]; show cs.length + 1 ≤ _; omega) fun x hx => ?_) (pr k4E)
      rcases List.mem_append.mp hx with hx | hx
      · refine ItE.same (H := Msl ds H8) ?_ (k9.trans (kA.trans (kB.trans (kC.trans (kD.trans kE)))))
        refine CutP.it (cs := ys) (fun y hy => ?_) x hx
        exact hyp y hy
      · rw [List.mem_singleton.mp hx]
        exact itE_tup hz0 (wid_int 0)
    rw [List.mem_singleton.mp hu]
    exact papE_tup (kE _ _ hD2) (cu k4E) (ml k4E)
  rintro _ H8 ⟨m, rfl, s8, nm, us8, hus8, hul8, hup8⟩
  show tSeq (tFor _ _ _) _ _ [some (V.ref g), some fv, some (V.ref va), some (V.int more), some (V.ref mv), some (V.ref m), some (V.int t), some (V.ref cp), some (V.ref pp), some (V.int f1), some (V.int f2), none, none, none, none] _
  have ng8 := g7.same s8
  have hmd : m ∉ ds := g7.nmem nm
  have gm' : g ≠ m := fun z => hmd (by rw [← z]; exact hgd)
  have hG8 := hG4.same (s5.trans (s6.trans (s7.trans s8)))
  have kS : Same (Msl ds H7) (Msl (m :: ds) H8) := fun b o h => msl_at (s8 _ _ (msl_same _ _ h)) fun z => (List.mem_cons.mp z).elim (fun z => by have := msl_same _ _ h; rw [z, nm] at this; cases this) (msl_in h)
  have k48 := k7.trans kS
  have hcsS0 := k48 _ _ hcs4
  have hppS0 := k48 _ _ hpp4
  have hcPS0 := hcP4.same k48
  -- one cut is made odd
  refine ⟨_, rfl, _, rfl, _, rfl, _, rfl, _, _, rfl, rfl, _, rfl, cp, _, rfl, .inl (.inl (msl_same _ _ hcsS0)), fun sp nsp => ?_⟩
  generalize e0 : upd _ sp _ = HS
  obtain ⟨sS, kkS, hspS, gmS, ggS⟩ := newMm nsp ⟨_, hus8⟩ ng8 e0
  have hcsS := kkS _ _ hcsS0
  have hppS := kkS _ _ hppS0
  have hcPS := hcPS0.same kkS
  clear cu pr ml
  have hcut1 := cutV_len cs (some (f1 : Int)) (some ((f1 : Int) + 1))
  generalize hcutV : cutV cs (some (f1 : Int)) (some ((f1 : Int) + 1)) = xs at *
  refine ⟨sp, rfl, ⟨_, .inl (.inl (msl_same _ _ hspS))⟩, ?_⟩
  refine for_list (K := K) (a := sp) (xs := xs) (fun i σ HA => ∃ v11 v12 v13 : Option V, σ = [some (V.ref g), some fv, some (V.ref va), some (V.int more), some (V.ref mv), some (V.ref m), some (V.int t), some (V.ref cp), some (V.ref pp), some (V.int f1), some (V.int f2), v11, v12, v13, none] ∧ But m HS HA ∧ MenuI K m ds HA (13 + 9 * i)) ⟨none, none, none, rfl, But.refl, us8, sS _ _ hus8, by omega, (fun u hu => (hup8 u hu).same kkS), by omega⟩ (fun i σ HA _ ⟨_, _, _, _, b, _⟩ => .inl (.inl (msl_same _ _ (mm_but b _ _ hspS)))) ?_ ?_
  · rintro i x σ HA hx ⟨v11, v12, v13, rfl, bA, hmA⟩
    have hil := (List.getElem?_eq_some_iff.mp hx).1
    obtain ⟨tt, nn, kd, rfl, htt⟩ := hcPS x (by rw [← hcutV] at hx; exact cutV_sub (List.mem_of_getElem? hx))
    have kA := mm_but (ds := ds) bA
    refine ⟨tt, _, rfl, .inl (.inl (msl_same _ _ (kA _ _ htt))), rfl, _, _, rfl, _, _, rfl, rfl, ?_⟩
    show tSeq (tFor _ _ _) _ _ [some (V.ref g), some fv, some (V.ref va), some (V.int more), some (V.ref mv), some (V.ref m), some (V.int t), some (V.ref cp), some (V.ref pp), some (V.int f1), some (V.int f2), some (V.int (nn : Int)), some (kdV kd), v13, none] _
    refine ⟨(by show 7 ≤ sizeLine; decide), fun oz noz => ?_⟩
    generalize e0 : upd _ oz _ = HO
    obtain ⟨us, hus, hul, hup, hpos⟩ := hmA
    have gmA : ∃ o, HA m = some o := ⟨_, hus⟩
    have ggA := ggS.off hmd bA
    obtain ⟨sO, kO, hO, gmO, ggO⟩ := newMm noz gmA ggA e0
    have hmO : MenuI K m ds HO (13 + 9 * i + 0) := ⟨us, sO _ _ hus, hul, (fun u hu => (hup u hu).same kO), hpos⟩
    clear hus hul hup hpos us
    refine ⟨oz, rfl, ⟨_, .inl (.inl (msl_same _ _ hO))⟩, ?_⟩
    refine for_list (K := K) (a := oz) (xs := [V.non, .int 0, .int 1, .int 2, .int 121, .bl true, .str (Str.ofString "1")]) (fun j σ HB => ∃ v13 : Option V, σ = [some (V.ref g), some fv, some (V.ref va), some (V.int more), some (V.ref mv), some (V.ref m), some (V.int t), some (V.ref cp), some (V.ref pp), some (V.int f1), some (V.int f2), some (V.int (nn : Int)), some (kdV kd), v13, none] ∧ But m HO HB ∧ MenuI K m ds HB (13 + 9 * i + j)) ⟨v13, rfl, But.refl, hmO⟩ (fun j σ HB _ ⟨_, _, b, _⟩ => .inl (.inl (msl_same _ _ (mm_but b _ _ hO)))) ?_ ?_
    · rintro j y σ HB hy ⟨w13, rfl, bB, us, hus, hul, hup, hpos⟩
      have hjl := (List.getElem?_eq_some_iff.mp hy).1
      have hjl' : j < 7 := hjl
      have hwid : ∀ H : Hp, ∃ wv, WidV K H y wv := fun H => by
        have := List.mem_of_getElem? hy
        rcases List.mem_cons.mp this with rfl | this
        · exact ⟨some none, rfl⟩
        rcases List.mem_cons.mp this with rfl | this
        · exact ⟨_, wid_int 0⟩
        rcases List.mem_cons.mp this with rfl | this
        · exact ⟨_, wid_int 1⟩
        rcases List.mem_cons.mp this with rfl | this
        · exact ⟨_, wid_int 2⟩
        rcases List.mem_cons.mp this with rfl | this
        · exact ⟨_, wid_int 121⟩
        rcases List.mem_cons.mp this with rfl | this
        · exact ⟨_, wid_bl true⟩
        rw [List.mem_singleton.mp this]
        exact ⟨_, wid_str _⟩
      have KK := (kA.trans kO).trans (mm_but (ds := ds) bB)
      have gm : ∃ o, HB m = some o := ⟨_, hus⟩
      have gg := ggO.off hmd bB
      refine ⟨_, rfl, .inl ⟨rfl, _, .inl (.inl hus)⟩, _, rfl, _, rfl, _, rfl, _, rfl, cp, _, rfl, .inl (.inl (msl_same _ _ (KK _ _ hcsS))), fun q1 n1 => ?_⟩
      generalize e0 : upd _ q1 _ = A1
      obtain ⟨s1, k1, h1, m1', g1'⟩ := newMm n1 gm gg e0
      refine ⟨_, rfl, _, rfl, (by show 2 ≤ sizeLine; decide), fun z1 nz1 => ?_⟩
      generalize e0 : upd _ z1 _ = A2
      obtain ⟨s2, k2, h2, m2', g2'⟩ := newMm nz1 m1' g1' e0
      refine ⟨(by show 1 ≤ sizeLine; decide), fun z2 nz2 => ?_⟩
      generalize e0 : upd _ z2 _ = A3
      obtain ⟨s3, k3, h3, m3', g3'⟩ := newMm nz2 m2' g2' e0
      refine ⟨q1, z2, _, _, rfl, rfl, msl_same _ _ ((k2.trans k3) _ _ h1), msl_same _ _ h3, by have := cutV_len cs none (some (f1 : Int)); rw [sizeLine_eq]; show (cutV cs none (some (f1 : Int))).length + 1 ≤ _; omega, fun q2 n2 => ?_⟩
      generalize e0 : upd _ q2 _ = A4
      obtain ⟨s4, k4, h4, m4', g4'⟩ := newMm n2 m3' g3' e0
      have k14 := (k2.trans (k3.trans k4))
      refine ⟨_, rfl, _, rfl, _, _, rfl, rfl, _, rfl, cp, _, rfl, .inl (.inl (msl_same _ _ ((KK.trans (k1.trans k14)) _ _ hcsS))), fun q3 n3 => ?_⟩
      generalize e0 : upd _ q3 _ = A5
      obtain ⟨s5, k5, h5, m5', g5'⟩ := newMm n3 m4' g4' e0
      refine ⟨q2, q3, _, _, rfl, rfl, msl_same _ _ (k5 _ _ h4), msl_same _ _ h5, by have := cutV_len cs none (some (f1 : Int)); have := cutV_len cs (some ((f1 : Int) + 1)) none; rw [List.length_append, sizeLine_eq]; show (cutV cs none (some (f1 : Int))).length + 1 + (cutV cs (some ((f1 : Int) + 1)) none).length ≤ _; omega, fun q4 n4 => ?_⟩
      generalize e0 : upd _ q4 _ = A6
      obtain ⟨s6, k6, h6, m6', g6'⟩ := newMm n4 m5' g5' e0
      refine ⟨_, rfl, (by show 3 ≤ sizeLine; decide), fun u n5 => ?_⟩
      generalize e0 : upd _ u _ = A7
      obtain ⟨s7, k7, h7, m7', g7'⟩ := newMm n5 m6' g6' e0
      have sA7 := s1.trans ((s2.trans (s3.trans (s4.trans (s5.trans (s6.trans s7))))))
      have k17 := k1.trans (k14.trans (k5.trans (k6.trans k7)))
      refine ⟨m, _, _, rfl, rfl, sA7 _ _ hus, by rw [sizeLine_eq]; omega, ?_⟩
      have hnew : PapE K (Msl (m :: ds) A7) (.ref u) := by
        refine papE_tup h7 (cutE_lst (k7 _ _ h6) ?_ fun x hx => ?_) (priE_lst ((KK.trans k17) _ _ hppS) rfl (by omega))
        · have := cutV_len cs none (some (f1 : Int))
          have := cutV_len cs (some ((f1 : Int) + 1)) none
          rw [List.length_append, List.length_append]
          show (cutV cs none (some (f1 : Int))).length + 1 + (cutV cs (some ((f1 : Int) + 1)) none).length ≤ _
          omega
        have cP := (hcPS.same (KK.trans k17)).it (K := K)
        rcases List.mem_append.mp hx with hx | hx
        · rcases List.mem_append.mp hx with hx | hx
          · exact cP x (cutV_sub hx)
          · rw [List.mem_singleton.mp hx]
            exact itE_tup ((k3.trans (k4.trans (k5.trans (k6.trans k7)))) _ _ h2) (hwid _).choose_spec
        · exact cP x (cutV_sub hx)
      generalize e0 : upd _ m _ = A8
      obtain ⟨b8, hm8'⟩ := MenuI.app hul hup k17 hnew e0
      exact ⟨_, rfl, (bB.same sA7).trans b8, hm8'⟩
    · rintro σ HB ⟨w13, rfl, bB, us, hus, hul, hup, hpos⟩
      have KK := (kA.trans kO).trans (mm_but (ds := ds) bB)
      have gm : ∃ o, HB m = some o := ⟨_, hus⟩
      have gg := ggO.off hmd bB
      have hul : us.length ≤ 13 + 9 * i + 7 := hul
      refine ⟨_, rfl, .inl ⟨rfl, _, .inl (.inl hus)⟩, _, rfl, _, rfl, _, rfl, _, rfl, cp, _, rfl, .inl (.inl (msl_same _ _ (KK _ _ hcsS))), fun q1 n1 => ?_⟩
      generalize e0 : upd _ q1 _ = A1
      obtain ⟨s1, k1, h1, m1', g1'⟩ := newMm n1 gm gg e0
      refine ⟨_, rfl, _, rfl, (by show 2 ≤ sizeLine; decide), fun z1 nz1 => ?_⟩
      generalize e0 : upd _ z1 _ = A2
      obtain ⟨s2, k2, h2, m2', g2'⟩ := newMm nz1 m1' g1' e0
      refine ⟨(by show 1 ≤ sizeLine; decide), fun z2 nz2 => ?_⟩
      generalize e0 : upd _ z2 _ = A3
      obtain ⟨s3, k3, h3, m3', g3'⟩ := newMm nz2 m2' g2' e0
      refine ⟨q1, z2, _, _, rfl, rfl, msl_same _ _ ((k2.trans k3) _ _ h1), msl_same _ _ h3, by have := cutV_len cs none (some (f1 : Int)); rw [sizeLine_eq]; show (cutV cs none (some (f1 : Int))).length + 1 ≤ _; omega, fun q2 n2 => ?_⟩
      generalize e0 : upd _ q2 _ = A4
      obtain ⟨s4, k4, h4, m4', g4'⟩ := newMm n2 m3' g3' e0
      have k14 := (k2.trans (k3.trans k4))
      refine ⟨_, rfl, _, rfl, _, _, rfl, rfl, _, rfl, cp, _, rfl, .inl (.inl (msl_same _ _ ((KK.trans (k1.trans k14)) _ _ hcsS))), fun q3 n3 => ?_⟩
      generalize e0 : upd _ q3 _ = A5
      obtain ⟨s5, k5, h5, m5', g5'⟩ := newMm n3 m4' g4' e0
      refine ⟨q2, q3, _, _, rfl, rfl, msl_same _ _ (k5 _ _ h4), msl_same _ _ h5, by have := cutV_len cs none (some (f1 : Int)); have := cutV_len cs (some ((f1 : Int) + 1)) none; rw [List.length_append, sizeLine_eq]; show (cutV cs none (some (f1 : Int))).length + 1 + (cutV cs (some ((f1 : Int) + 1)) none).length ≤ _; omega, fun q4 n4 => ?_⟩
      generalize e0 : upd _ q4 _ = A6
      obtain ⟨s6, k6, h6, m6', g6'⟩ := newMm n4 m5' g5' e0
      refine ⟨_, rfl, (by show 3 ≤ sizeLine; decide), fun u n5 => ?_⟩
      generalize e0 : upd _ u _ = A7
      obtain ⟨s7, k7, h7, m7', g7'⟩ := newMm n5 m6' g6' e0
      have sA7 := s1.trans ((s2.trans (s3.trans (s4.trans (s5.trans (s6.trans s7))))))
      have k17 := k1.trans (k14.trans (k5.trans (k6.trans k7)))
      refine ⟨m, _, _, rfl, rfl, sA7 _ _ hus, by rw [sizeLine_eq]; omega, ?_⟩
      have hnew : PapE K (Msl (m :: ds) A7) (.ref u) := by
        refine papE_tup h7 (cutE_lst (k7 _ _ h6) ?_ fun x hx => ?_) (priE_lst ((KK.trans k17) _ _ hppS) rfl (by omega))
        · have := cutV_len cs none (some (f1 : Int))
          have := cutV_len cs (some ((f1 : Int) + 1)) none
          rw [List.length_append, List.length_append]
          show (cutV cs none (some (f1 : Int))).length + 1 + (cutV cs (some ((f1 : Int) + 1)) none).length ≤ _
          omega
        have cP := (hcPS.same (KK.trans k17)).it (K := K)
        rcases List.mem_append.mp hx with hx | hx
        · rcases List.mem_append.mp hx with hx | hx
          · exact cP x (cutV_sub hx)
          · rw [List.mem_singleton.mp hx]
            exact itE_lst ((k3.trans (k4.trans (k5.trans (k6.trans k7)))) _ _ h2)
        · exact cP x (cutV_sub hx)
      generalize e0 : upd _ m _ = A8
      obtain ⟨b8, hm8'⟩ := MenuI.app hul hup k17 hnew e0
      have bC := (bB.same sA7).trans b8
      have KK := KK.trans (k17.trans (mm_but (ds := ds) b8))
      obtain ⟨us, hus, hul, hup, hpos⟩ := hm8'
      have gm : ∃ o, A8 m = some o := ⟨_, hus⟩
      have gg := (gg.same sA7).off hmd b8
      refine ⟨_, rfl, .inl ⟨rfl, _, .inl (.inl hus)⟩, _, rfl, _, rfl, _, rfl, _, rfl, cp, _, rfl, .inl (.inl (msl_same _ _ (KK _ _ hcsS))), fun q1 n1 => ?_⟩
      generalize e0 : upd _ q1 _ = A1
      obtain ⟨s1, k1, h1, m1', g1'⟩ := newMm n1 gm gg e0
      refine ⟨_, rfl, (by show 2 ≤ sizeLine; decide), fun z1 nz1 => ?_⟩
      generalize e0 : upd _ z1 _ = A2
      obtain ⟨s2, k2, h2, m2', g2'⟩ := newMm nz1 m1' g1' e0
      refine ⟨_, rfl, _, _, rfl, rfl, _, rfl, (by show 2 ≤ sizeLine; decide), fun z3 nz3 => ?_⟩
      generalize e0 : upd _ z3 _ = A9
      obtain ⟨s9, k9, h9, m9', g9'⟩ := newMm nz3 m2' g2' e0
      refine ⟨(by show 2 ≤ sizeLine; decide), fun z2 nz2 => ?_⟩
      generalize e0 : upd _ z2 _ = A3
      obtain ⟨s3, k3, h3, m3', g3'⟩ := newMm nz2 m9' g9' e0
      refine ⟨q1, z2, _, _, rfl, rfl, msl_same _ _ ((k2.trans (k9.trans k3)) _ _ h1), msl_same _ _ h3, by have := cutV_len cs none (some (f1 : Int)); rw [sizeLine_eq]; show (cutV cs none (some (f1 : Int))).length + 2 ≤ _; omega, fun q2 n2 => ?_⟩
      generalize e0 : upd _ q2 _ = A4
      obtain ⟨s4, k4, h4, m4', g4'⟩ := newMm n2 m3' g3' e0
      have k14 := (k2.trans (k9.trans (k3.trans k4)))
      refine ⟨_, rfl, _, rfl, _, _, rfl, rfl, _, rfl, cp, _, rfl, .inl (.inl (msl_same _ _ ((KK.trans (k1.trans k14)) _ _ hcsS))), fun q3 n3 => ?_⟩
      generalize e0 : upd _ q3 _ = A5
      obtain ⟨s5, k5, h5, m5', g5'⟩ := newMm n3 m4' g4' e0
      refine ⟨q2, q3, _, _, rfl, rfl, msl_same _ _ (k5 _ _ h4), msl_same _ _ h5, by have := cutV_len cs none (some (f1 : Int)); have := cutV_len cs (some ((f1 : Int) + 1)) none; rw [List.length_append, sizeLine_eq]; show (cutV cs none (some (f1 : Int))).length + 2 + (cutV cs (some ((f1 : Int) + 1)) none).length ≤ _; omega, fun q4 n4 => ?_⟩
      generalize e0 : upd _ q4 _ = A6
      obtain ⟨s6, k6, h6, m6', g6'⟩ := newMm n4 m5' g5' e0
      refine ⟨_, rfl, (by show 3 ≤ sizeLine; decide), fun u n5 => ?_⟩
      generalize e0 : upd _ u _ = A7
      obtain ⟨s7, k7, h7, m7', g7'⟩ := newMm n5 m6' g6' e0
      have sA7 := s1.trans ((s2.trans (s9.trans (s3.trans (s4.trans (s5.trans (s6.trans s7)))))))
      have k17 := k1.trans (k14.trans (k5.trans (k6.trans k7)))
      refine ⟨m, _, _, rfl, rfl, sA7 _ _ hus, by rw [sizeLine_eq]; omega, ?_⟩
      have hnew : PapE K (Msl (m :: ds) A7) (.ref u) := by
        refine papE_tup h7 (cutE_lst (k7 _ _ h6) ?_ fun x hx => ?_) (priE_lst ((KK.trans k17) _ _ hppS) rfl (by omega))
        · have := cutV_len cs none (some (f1 : Int))
          have := cutV_len cs (some ((f1 : Int) + 1)) none
          rw [List.length_append, List.length_append]
          show (cutV cs none (some (f1 : Int))).length + 2 + (cutV cs (some ((f1 : Int) + 1)) none).length ≤ _
          omega
        have cP := (hcPS.same (KK.trans k17)).it (K := K)
        rcases List.mem_append.mp hx with hx | hx
        · rcases List.mem_append.mp hx with hx | hx
          · exact cP x (cutV_sub hx)
          · rcases List.mem_cons.mp hx with rfl | hx
            · exact itE_tup ((k9.trans (k3.trans (k4.trans (k5.trans (k6.trans k7))))) _ _ h2) (wid_kd (H := Msl (m :: ds) A7) kd).choose_spec
            · rw [List.mem_singleton.mp hx]
              exact itE_tup ((k3.trans (k4.trans (k5.trans (k6.trans k7)))) _ _ h9) (wid_kd (H := Msl (m :: ds) A7) kd).choose_spec
        · exact cP x (cutV_sub hx)
      generalize e0 : upd _ m _ = A8
      obtain ⟨b8, hm8'⟩ := MenuI.app hul hup k17 hnew e0
      refine ⟨_, _, _, rfl, bA.trans ((But.of sO).trans ((bC.same sA7).trans b8)), ?_⟩
      rw [show 13 + 9 * (i + 1) = 13 + 9 * i + 7 + 1 + 1 by omega]
      exact hm8'
  · rintro σ HA ⟨v11, v12, v13, rfl, bA, us, hus, hul, hup, hpos⟩
    have hxl : xs.length ≤ 40 := by omega
    have h7 : us.length ≤ 1000 := by omega
    have gmS : But m H8 HA := (But.of sS).trans bA
    have hGA : GenAt HA g (n + 100 + 100 + 100) := by
      obtain ⟨x, y, z, a, b, c⟩ := hG8
      exact ⟨x, y, z, gmS _ _ gm' a, b, c⟩
    have sH8 : But g H HA := fun c o nc h => gmS _ _ (fun z => by
      have := none_back (s4.trans (s5.trans (s6.trans s7))) nm
      rw [← z] at this
      rw [b03 _ _ nc h] at this
      cases this) (s8 _ _ (s7 _ _ (s6 _ _ (s5 _ _ (s4 _ _ (b03 _ _ nc h))))))
    refine ⟨_, rfl, _, rfl, _, rfl, m, _, rfl, .inl (.inl (.inl hus)), ?_⟩
    refine ⟨g, _, _, rfl, hGA, by omega, by omega, small_2900 (by omega), fun d HB d0 d1 hGB bB => ?_⟩
    have hmB := bB _ _ gm'.symm hus
    obtain ⟨dd, rfl⟩ : ∃ dd : Nat, d = (dd : Int) := ⟨d.toNat, by omega⟩
    have hdl : dd < us.length := by omega
    refine ⟨m, _, _, us[dd], rfl, rfl, .inl (.inl hmB), atI_nat (List.getElem?_eq_getElem hdl), ?_⟩
    refine q _ _ (sH8.trans bB) hGB ?_
    have := hup us[dd] (List.getElem_mem hdl)
    refine this.same fun b o h => ?_
    exact msl_but hgd bB _ _ (msl_at (msl_same _ _ h) fun z => msl_in h (List.mem_cons_of_mem _ z))
end
end My

namespace My
open PySem PySem.Spec PyProof.Rows L2 Pre
/-! ### the law on few folds -/
theorem price_le {xs : List Int} {B : Int} (h : ∀ x ∈ xs, x ≤ B) : price xs 0 ≤ xs.length * (B + 1) := by
  induction xs with
  | nil => simp [price]
  | cons x r ih =>
    have i := ih fun y hy => h y (List.mem_cons_of_mem _ hy)
    have := h x List.mem_cons_self
    rw [price_cons, List.length_cons, Int.natCast_add, Int.add_mul, Int.pow_zero, Int.ediv_one]
    omega
theorem strP_least (bits : Option Nat) (xs : List Int) : strP bits xs ≤ leastP xs := by
  unfold strP
  split
  · split
    · exact Int.min_le_left _ _
    · exact Int.le_refl _
  · exact Int.le_refl _
theorem str_le {bits : Option Nat} {ns : List Int} {B : Int} (hB : 0 ≤ B) (h : ∀ x ∈ ns, x ≤ B) (b p : Nat) : strP bits (slc ns b p) ≤ ns.length * (B + 1) := by
  have h1 := strP_least bits (slc ns b p)
  have h2 := leastP_le (slc ns b p) (w := 0) (by decide)
  have h3 := price_le (xs := slc ns b p) fun x hx => h x (slc_sub hx)
  have h4 := slc_le (ns := ns) (b := b) (p := p)
  have h5 : ((slc ns b p).length : Int) * (B + 1) ≤ (ns.length : Int) * (B + 1) := Int.mul_le_mul_of_nonneg_right (by omega) (by omega)
  omega
theorem costG_le {bits : Option Nat} {cost : Int} {ns : List Int} {C : Int} (h : ∀ b p, cost + strP bits (slc ns b p) ≤ C) : ∀ (l : List Nat) (b : Nat), costG bits cost ns b l ≤ l.length * C
  | [], b => by simp [costG]
  | x :: r, b => by
    have h1 := costG_le h r (b + x)
    have h2 := h b (b + x)
    show cost + strP bits (slc ns b (b + x)) + costG bits cost ns (b + x) r ≤ _
    rw [List.length_cons, Int.natCast_add, Int.add_mul]
    omega
theorem costs_le {bits : Option Nat} {few : Nat} {cost : Int} {ns : List Int} (hf : 1 ≤ few) (h8 : ns.length ≤ 8) (hc9 : cost ≤ 9) (hc0 : 0 ≤ cost) (hB : ∀ x ∈ ns, x ≤ 4096) : ∀ y ∈ costs bits few cost ns ns.length, y ≤ 10 ^ 9 := fun y hy => by
  obtain ⟨l, hl, rfl⟩ := List.mem_map.mp hy
  have h1 := (lenF_row hf hl).1
  have h2 := costG_le (C := 40000) (cost := cost) (bits := bits) (ns := ns) (fun b p => by
    have := str_le (bits := bits) (by decide) hB b p
    have h3 : (ns.length : Int) * (4096 + 1) ≤ 8 * (4096 + 1) := Int.mul_le_mul_of_nonneg_right (by omega) (by decide)
    omega) l 0
  have h3 : (l.length : Int) * 40000 ≤ 8 * 40000 := Int.mul_le_mul_of_nonneg_right (by omega) (by decide)
  omega
theorem how_count {l : List Int} (h : ∀ y ∈ l, y ≤ 10 ^ 9) {M : Int} (h1 : M ∈ l ++ [10 ^ 9]) (h2 : ∀ y ∈ l ++ [(10 : Int) ^ 9], M ≤ y) : (statOf l).2 = l.count M := by
  unfold statOf
  by_cases c : l = []
  · subst c
    rfl
  · rw [if_neg c]
    obtain ⟨k1, k2⟩ := minI_mem' c
    have e : M = minI l := by
      have a1 := h2 _ (List.mem_append_left _ k1)
      rcases List.mem_append.mp h1 with z | z
      · have := k2 M z; omega
      · rw [List.mem_singleton.mp z] at a1 ⊢
        have := h _ k1
        omega
    rw [e]
theorem count_ints (l : List Int) (M : Int) : (l.map V.int).countP (fun z => eqV z (.int M)) = l.count M := by
  rw [List.countP_map]
  rfl
theorem flat_ints (l : List Int) : (l.map V.int).all flatV = true := by
  rw [List.all_map, List.all_eq_true]
  exact fun _ _ => rfl
section
variable {bits : Option Nat} {few : Nat} {cost : Int} {ns : List Int}
theorem cutsU_len {L : Nat → Bst} {n : Nat} (hL : ∀ p v b k, p ≤ n → 0 < p → L p = some (v, b, k) → b < p) : ∀ f p : Nat, p ≤ n → (cutsU L f p).length ≤ p
  | 0, p, _ => Nat.zero_le _
  | f + 1, p, hp => by
    show (if p = 0 then [] else match L p with
      | some (_, b, k) => cutsU L f b ++ [(p - b, k)]
      | none => []).length ≤ p
    by_cases c : p = 0
    · rw [if_pos c]; exact Nat.zero_le _
    · rw [if_neg c]
      cases e : L p with
      | none => exact Nat.zero_le _
      | some x =>
        obtain ⟨v, b, k⟩ := x
        have h1 := hL p v b k hp (by omega) e
        have h2 := cutsU_len hL f b (by omega)
        dsimp only
        rw [List.length_append]
        show (cutsU L f b).length + 1 ≤ p
        omega
theorem told_paper (hf : 1 ≤ few) (hF : Folds ns) (h40 : hb ns ≤ 40) (hc : 0 ≤ cost) {t : Int} {l : List (Nat × Kd)} {ps : List Int} (h : toldP bits few cost ns = some (t, l, ps)) : tot (bits.getD 0) few cost ns (kinds ns bits) ns.length = some t ∧ Paper bits few cost ns (some (t, some (l.map ciK), some ps)) ∧ ps.length = ns.length + 1 := by
  unfold toldP at h
  obtain ⟨v, hv, e⟩ := Option.map_eq_some_iff.mp h
  cases e
  have hlen : (prsF ((List.range (ns.length + 1)).map (tot (bits.getD 0) few cost ns (kinds ns bits))) (highF ((List.range (ns.length + 1)).map (tot (bits.getD 0) few cost ns (kinds ns bits))))).length = ns.length + 1 := by
    unfold prsF
    rw [List.length_map, List.length_map, List.length_range]
  have g : ∀ q, q ≤ ns.length → ∀ high, (prsF ((List.range (ns.length + 1)).map (tot (bits.getD 0) few cost ns (kinds ns bits))) high).getD q 0 = (tot (bits.getD 0) few cost ns (kinds ns bits) q).getD high := fun q hq high => by
    unfold prsF
    rw [List.getD_eq_getElem?_getD, List.getElem?_map, List.getElem?_map, List.getElem?_range (by omega)]
    rfl
  refine ⟨hv, ⟨cuts_right hf hF h40 _ _ t (Nat.le_refl _) (Nat.le_refl _) hv, hlen, ?_, ?_⟩, hlen⟩
  · rw [g _ (Nat.le_refl _), g _ (Nat.zero_le _), hv]
    show t - 0 = t
    omega
  · refine hold_told hf hF h40 hc fun q hq v hv' => ?_
    have hm : v ∈ ((List.range (ns.length + 1)).map (tot (bits.getD 0) few cost ns (kinds ns bits))).filterMap id := List.mem_filterMap.mpr ⟨some v, List.mem_map.mpr ⟨q, List.mem_range.mpr (by omega), hv'⟩, rfl⟩
    unfold highF
    generalize ((List.range (ns.length + 1)).map (tot (bits.getD 0) few cost ns (kinds ns bits))).filterMap id = L at *
    cases L with
    | nil => cases hm
    | cons x xs => exact (fold_max xs x).2 v hm
theorem told_len (hf : 1 ≤ few) (hF : Folds ns) (h40 : hb ns ≤ 40) {t : Int} {l : List (Nat × Kd)} {ps : List Int} (h : toldP bits few cost ns = some (t, l, ps)) : l.length ≤ ns.length := by
  unfold toldP at h
  obtain ⟨v, hv, e⟩ := Option.map_eq_some_iff.mp h
  cases e
  refine cutsU_len (n := ns.length) (fun p v b k hp h0 e => ?_) _ _ (Nat.le_refl _)
  have ok := tot_ok (bits := bits) (few := few) (cost := cost) hf hF h40 hp h0
  have := (ok.some_ v b k e).1
  omega
end
theorem told_msl {H0 H : Hp} {g : Addr} {n : Nat} {v : V} {x : Option (Int × List (Nat × Kd) × List Int)} (hg : GenAt H g n) (h0 : ∃ o, H0 g = some o) (h : ToldV H v x) (hn : ToldN H0 H v) : ToldV (Msl [g] H) v x := by
  have at_ : ∀ {b o}, H b = some o → b ≠ g → Msl [g] H b = some o := fun h n => msl_at h fun z => n (List.mem_singleton.mp z)
  obtain ⟨gx, gy, gz, hgv, _⟩ := hg
  cases x with
  | none => exact h
  | some q =>
    obtain ⟨t, cs, ps⟩ := q
    obtain ⟨a, cp, pp, rfl, h1, ⟨ys, h2, h3, h4⟩, h5⟩ := h
    have npp : pp ≠ g := fun z => by
      have := hn a _ cp pp rfl h1
      obtain ⟨o, h0⟩ := h0
      rw [z, h0] at this
      cases this
    refine ⟨a, cp, pp, rfl, at_ h1 (fun z => by rw [z, hgv] at h1; cases h1), ⟨ys, at_ h2 (fun z => ?_), h3, fun i c x hc hx => ?_⟩, at_ h5 npp⟩
    · rw [z, hgv] at h2
      cases h2
      obtain ⟨x0, hx0⟩ : ∃ x0, cs[0]? = some x0 := ⟨_, List.getElem?_eq_getElem (by rw [← h3]; show 0 < 3; decide)⟩
      obtain ⟨u, e, _⟩ := h4 0 _ x0 rfl hx0
      cases e
    · obtain ⟨u, e, hu⟩ := h4 i c x hc hx
      exact ⟨u, e, at_ hu fun z => by rw [z, hgv] at hu; cases hu⟩
theorem repr_bool {K : PySem.W.Frag} {H : Hp} {b : Bool} {Q : VK} (q : Q (.str (PyData.bool b).shown) H) : rRepr K [.bl b] H Q := by
  refine ⟨_, .bool b, rfl, .bl b, rfl, rfl, ?_, q⟩
  cases b <;> rw [PyData.shown] <;> decide +kernel
local macro_rules | `(tactic| walk_at "go") => `(tactic| repeat (first | (with_reducible first | refine iteT ?_ | refine iteF ?_ | refine iteNtt ?_ | refine iteNff ?_ | refine iteET (by omega) ?_ | refine iteEF (by omega) ?_ | refine iteENT (by omega) ?_ | refine iteENF (by omega) ?_ | refine iteDT (by omega) ?_ | refine iteDF (by omega) ?_ | refine iteNT (by omega) ?_ | refine iteNF (by omega) ?_) | refine ⟨_, rfl, ?_⟩ | refine ⟨_, _, rfl, rfl, ?_⟩ | refine ⟨_, _, rfl, ?_⟩ | refine ⟨rfl, ?_⟩ | refine .inl ⟨_, rfl, ?_⟩ | refine .inr ⟨_, rfl, ?_⟩))
local macro_rules | `(tactic| walk_at "b") => `(tactic| try dsimp (config := { proj := false, iota := false, eta := false, zeta := false }) only)
section
variable {P : Program} {w : World} {K : PySem.W.Frag} {mg : Str → Option Value} {base : Heap}
def sp_law_small_right (C : Addr) (K : PySem.W.Frag) : Sp := fun vs H Q _ => ∃ (g a : Addr) (n : Nat) (ns : List Int) (few : Nat) (cost : Int) (bits : Option Nat), vs = [.ref g, .ref a, .int few, .int cost, optV bits] ∧ GenAt H g n ∧ n ≤ 10 ^ 7 ∧ a ≠ g ∧ H a = some (.lst (ns.map V.int)) ∧ Folds ns ∧ ns.length ≤ 8 ∧ (∀ x ∈ ns, x < 2 ^ 12) ∧ 1 ≤ few ∧ few ≤ 3 ∧ 0 ≤ cost ∧ cost ≤ 9 ∧ bits.getD 0 ≤ 100 ∧ ∀ H', But g H H' → GenAt H' g (n + 4000) → Q (.bl true) H'
theorem G_law_small_right (T : Top K mg) : FnG P w K mg base CX0 16 T.f_law_small_right T.fd_law_small_right ["_law_generator_here", "_law_folds", "_law_few", "_law_cost", "_law_bits"] (sp_law_small_right T.C_Way K) := by
  refine FnG.body T.F_law_small_right sc_law_small_right (fun vs H Q E h => by obtain ⟨g, a, n, ns, few, cost, bits, rfl, _⟩ := h; rfl) (fun cdv A outer s H vs Q E gd hr h => ?_)
  obtain ⟨g, a, n, ns, few, cost, bits, rfl, hG, hn, ag, hA, hF, h8, hb12, hf, hf3, hc, hc9, hbt, q⟩ := h
  refine ⟨_, PSs.nox (pss_cons (ps_par (by rfl) sc_law_small_right.nd (i := 7) (j := 8) rfl rfl (by decide) rfl rfl (pa_cons (pe_callTy (k_listOf K rfl) (by rfl) T.n_list (by decide +kernel) (pa_cons (pv 1) pa_nil)) (pa_cons (pe_call (G_law_all_costs T) (hr.mono (by decide)) (by rfl) T.g_law_all_costs T.F_law_all_costs.kp T.b_law_all_costs .nil pass0 (pa_cons (pv 1) (pa_cons (pv 2) (pa_cons (pv 3) (pa_cons (pv 4) pa_nil))))) pa_nil)) (by rfl))
  (pss_cons (ps_set (i := 5) sc_law_small_right.nd rfl (by first | exact Or.inl rfl | exact Or.inr rfl) (pe_call (G_least_cuts T) (hr.mono (by decide)) (by rfl) T.g_least_cuts T.F_least_cuts.kp T.b_least_cuts .nil pass0 (pa_cons (pv 1) (pa_cons (pv 2) (pa_cons (pv 3) (pa_cons (pv 4) pa_nil))))))
  (pss_cons (ps_if (PW.pt (pw_or (pt_cmpR op_ne (pe_cmpR op_isN (pv 5) pe_non (nomark _)) (pe_cmpR (k_eqD K rfl hr.units) (pv 8) (pe_lst pa_nil) (nomark _)) (nomark _)) (pw_or1 (pt_cmpR op_ne (pe_call (G_how_many_cuts T) (hr.mono (by decide)) (by rfl) T.g_how_many_cuts T.F_how_many_cuts.kp T.b_how_many_cuts .nil pass0 (pa_cons (pv 1) (pa_cons (pv 2) (pa_cons (pv 3) (pa_cons (pv 4) pa_nil))))) (pe_bm PySem.F.plainAttrs_list PySem.F.slot_list_count PySem.F.type_list_count (k_countF K rfl) (pv 8) (pa_cons (pe_callB (k_min K rfl rfl) (by rfl) T.n_min (by decide +kernel) (pa_cons (pe_op op_cat (pv 8) (pe_lst (pa_cons (pe_op op_powW pe_int pe_int) pa_nil))) pa_nil)) pa_nil)) (nomark _)))))
    (pss_one (ps_ret pe_bl))
    pss_nil)
  (pss_cons (ps_if (pt_cmpR op_isN (pv 5) pe_non (nomark _))
    (pss_one (ps_ret (pe_and (pe_cmpR op_is_bl (pe_call (G_is_cuts_paper T) (hr.mono (by decide)) (by rfl) T.g_is_cuts_paper T.F_is_cuts_paper.kp T.b_is_cuts_paper .nil pass0 (pa_cons (pv 1) (pa_cons (pv 2) (pa_cons (pv 3) (pa_cons (pv 4) (pa_cons pe_non pa_nil)))))) pe_bl (nomark _)) (pe_one (pe_cmpR (k_eqD K rfl hr.units) (pv 1) (pv 7) (nomark _))))))
    pss_nil)
  (pss_cons (ps_if (PW.pt (pw_or (pt_cmpR op_ne (pe_ix (k_ixT K rfl) (pv 5) pe_int (fun _ _ => rfl)) (pe_callB (k_min K rfl rfl) (by rfl) T.n_min (by decide +kernel) (pa_cons (pv 8) pa_nil)) (nomark _)) (pw_or1 (pt_not (pt_val (pe_call (G_law_paper T) (hr.mono (by decide)) (by rfl) T.g_law_paper T.F_law_paper.kp T.b_law_paper .nil pass0 (pa_cons (pv 1) (pa_cons (pv 2) (pa_cons (pv 3) (pa_cons (pv 4) (pa_cons (pv 5) pa_nil)))))))))))
    (pss_one (ps_ret pe_bl))
    pss_nil)
  (pss_cons (ps_for PassesOwn.never rfl (k_piL K rfl (pe_op op_cat (pe_lst (pa_cons (pv 5) pa_nil)) (pe_lc (own := [("_law_turn", 10)]) (g := gName 10) (tt := tYes) (by rfl) sc_law_small_right.nd (pi_range1 (by rfl) T.n_range (pa_cons pe_int pa_nil)) (blkOk_by (own := [("_law_turn", 10)]) (N := N_law_small_right) (sc := defScope s_law_small_right) (by decide +kernel)) (fun _ _ _ _ _ => (pg_name (i := 10) sc_law_small_right.nd rfl (by first | exact Or.inl rfl | exact Or.inr rfl))) (fun _ _ _ _ _ => pts_nil) (fun _ _ _ _ _ => (pe_call (G_law_bent T) (hr.mono (by decide)) (by rfl) T.g_law_bent T.F_law_bent.kp T.b_law_bent .nil pass0 (pa_cons (pv 0) (pa_cons (pv 1) (pa_cons (pv 5) pa_nil)))))))) (pg_name (i := 6) sc_law_small_right.nd rfl (by first | exact Or.inl rfl | exact Or.inr rfl))
    (pss_cons (ps_set (i := 9) sc_law_small_right.nd rfl (by first | exact Or.inl rfl | exact Or.inr rfl) (pe_call (G_law_paper T) (hr.mono (by decide)) (by rfl) T.g_law_paper T.F_law_paper.kp T.b_law_paper .nil pass0 (pa_cons (pv 1) (pa_cons (pv 2) (pa_cons (pv 3) (pa_cons (pv 4) (pa_cons (pv 6) pa_nil)))))))
  (pss_one (ps_if (pt_cmpR op_ne (pe_callB (k_repr K rfl gd (hu65 hr)) (by rfl) T.n_repr (by decide +kernel) (pa_cons (pe_call (G_is_cuts_paper T) (hr.mono (by decide)) (by rfl) T.g_is_cuts_paper T.F_is_cuts_paper.kp T.b_is_cuts_paper .nil pass0 (pa_cons (pv 1) (pa_cons (pv 2) (pa_cons (pv 3) (pa_cons (pv 4) (pa_cons (pv 6) pa_nil)))))) pa_nil)) (pe_callB (k_repr K rfl gd (hu65 hr)) (by rfl) T.n_repr (by decide +kernel) (pa_cons (pv 9) pa_nil)) (nomark _))
    (pss_one (ps_ret pe_bl))
    pss_nil))))
  (pss_one (ps_ret (pe_cmpR (k_eqD K rfl hr.units) (pv 1) (pv 7) (nomark _)))))))))), ?_⟩
  have hl1000 : ns.length ≤ 1000 := by omega
  have h12 : hb ns ≤ 12 := (hb_le 12 hF.nn).mpr fun x hx => hb12 x hx
  have h40 : hb ns ≤ 40 := by omega
  have hFA : ∀ {H' : Hp}, H' a = some (.lst (ns.map V.int)) → FoldsAt K H' a ns := fun h => ⟨.inl h, hF, hl1000⟩
  have hcl := costs_le (bits := bits) (few := few) hf h8 hc9 hc (fun x hx => by have := hb12 x hx; omega)
  have hts := tot_stat (bits := bits) (few := few) (cost := cost) hf hF h40 ns.length (Nat.le_refl _)
  have hc128 : (costs bits few cost ns ns.length).length ≤ 128 := by
    unfold costs
    rw [List.length_map]
    exact lenF_len hf hf3 h8
  have hg0 : ∃ o, H g = some o := by obtain ⟨_, _, _, h, _⟩ := hG; exact ⟨_, h⟩
  have told := @told_paper bits few cost ns hf hF h40 hc
  have tlen := @told_len bits few cost ns hf hF h40
  have tnone : toldP bits few cost ns = none → tot (bits.getD 0) few cost ns (kinds ns bits) ns.length = none := fun h => by
    unfold toldP at h
    exact Option.map_eq_none_iff.mp h
  refine ⟨_, rfl, a, _, rfl, .inl (.inl (.inl hA)), fun kp nkp => ?_⟩
  generalize e0 : upd _ kp _ = H1
  obtain ⟨s1, hkp⟩ := newH nkp e0
  refine ⟨_, rfl, _, rfl, _, rfl, _, rfl, a, ns, few, cost, bits, rfl, hFA (s1 _ _ hA), h8, hf, hf3, hbt, fun H2 cp s2 hcp => ?_⟩
  refine ⟨_, _, rfl, ?_⟩
  have s02 := s1.trans s2
  refine ⟨_, rfl, _, rfl, _, rfl, _, rfl, a, ns, few, cost, bits, rfl, hFA (s02 _ _ hA), h40, by omega, hf, hc, fun H3 v s3 hv hvn => ?_⟩
  have s03 := s02.trans s3
  have hA3 := s03 _ _ hA
  have hcp3 := s3 _ _ hcp
  have hkp3 := s3 _ _ (s2 _ _ hkp)
  generalize hto : toldP bits few cost ns = to at *
  generalize hcs : costs bits few cost ns ns.length = cs at *
  dsimp only [gName]
  show tSeq (tIfS _ _ _) _ _ [some (V.ref g), some (V.ref a), some (V.int few), some (V.int cost), some (optV bits), some v, none, some (V.ref kp), some (V.ref cp), none, none] _
  have hvn' : (v = V.non) = (to = none) := by
    cases to with
    | none => exact propext ⟨fun _ => rfl, fun _ => hv⟩
    | some q =>
      obtain ⟨t, l, ps⟩ := q
      obtain ⟨x, _, _, e, _⟩ := hv
      exact propext ⟨(fun z => by rw [e] at z; cases z), fun z => by cases z⟩
  have hcn : (to = none) = (cs = []) := by
    cases to with
    | none =>
      rw [tnone rfl] at hts
      refine propext ⟨fun _ => ?_, fun _ => rfl⟩
      unfold statOf at hts
      by_cases c : cs = []
      · exact c
      · rw [if_neg c] at hts; cases hts
    | some q =>
      obtain ⟨t, l, ps⟩ := q
      rw [(told rfl).1] at hts
      refine propext ⟨(fun z => by cases z), fun z => ?_⟩
      rw [z] at hts
      cases hts
  refine ifs_join (fun σ' H' => σ' = [some (V.ref g), some (V.ref a), some (V.int few), some (V.int cost), some (optV bits), some v, none, some (V.ref kp), some (V.ref cp), none, none] ∧ Same H3 H') (fun nx hnx => ?_) ?_
  · refine ⟨_, rfl, rfl, _, rfl, (by show 0 ≤ sizeLine; decide), fun z nz => ?_⟩
    generalize e0 : upd _ z _ = H4
    obtain ⟨s4, hz⟩ := newH nz e0
    refine eqD_lst (ms := []) (.inl (.inl (s4 _ _ hcp3))) (.inl (.inl hz)) ⟨rfl, _, rfl, ?_⟩
    have e1 : decide (v = V.non) = decide (cs = []) := by
      by_cases c : cs = []
      · rw [decide_eq_true c, decide_eq_true (by rw [hvn', hcn]; exact c)]
      · rw [decide_eq_false c, decide_eq_false (by rw [hvn', hcn]; exact c)]
    rw [e1]
    refine iteNF rfl ?_
    refine ⟨_, rfl, _, rfl, _, rfl, _, rfl, a, ns, few, cost, bits, rfl, hFA (s4 _ _ hA3), by omega, hf, by omega, hc, fun H5 s5 => ?_⟩
    have hcp5 := s5 _ _ (s4 _ _ hcp3)
    rw [hcs]
    refine ⟨_, rfl, .inl ⟨rfl, _, .inl (.inl hcp5)⟩, _, rfl, _, _, rfl, rfl, ⟨by decide, by decide +kernel⟩, (by show 1 ≤ sizeLine; decide), fun z2 nz2 => ?_⟩
    generalize e0 : upd _ z2 _ = H6
    obtain ⟨s6, hz2⟩ := newH nz2 e0
    refine ⟨cp, z2, _, _, rfl, rfl, s6 _ _ hcp5, hz2, by rw [List.length_map, sizeLine_eq]; show cs.length + 1 ≤ _; omega, fun j nj => ?_⟩
    generalize e0 : upd _ j _ = H7
    obtain ⟨s7, hj⟩ := newH nj e0
    refine ⟨j, cs ++ [(10 : Int) ^ 9], rfl, .inl (.inl (by rw [hj, List.map_append]; rfl)), by rw [List.length_append]; show 0 < cs.length + 1; omega, fun M hM hle => ?_⟩
    refine ⟨cp, _, _, rfl, rfl, .inl (.inl (s7 _ _ (s6 _ _ hcp5))), rfl, flat_ints _, ?_⟩
    rw [count_ints, how_count hcl hM hle]
    refine ⟨rfl, _, rfl, iteNF rfl ?_⟩
    exact hnx _ _ ⟨rfl, s4.trans (s5.trans (s6.trans s7))⟩
  rintro _ H4 ⟨rfl, s4⟩
  have s04 := s03.trans s4
  have hA4 := s04 _ _ hA
  have hcp4 := s4 _ _ hcp3
  have hkp4 := s4 _ _ hkp3
  have hv4 := hv.same s4
  have seqr : ∀ {H' : Hp} {R : VK}, H' a = some (.lst (ns.map V.int)) → H' kp = some (.lst (ns.map V.int)) → R (.bl true) H' → rEqD K (.ref a) (.ref kp) H' R := fun h1 h2 r => eq_lst (.inl (.inl h1)) (.inl (.inl h2)) r
  -- no cuts
  cases to with
  | none =>
    obtain rfl : v = .non := hv
    refine ⟨_, rfl, rfl, _, rfl, iteT ?_⟩
    refine ⟨_, rfl, _, rfl, _, rfl, _, rfl, a, ns, few, cost, bits, .non, none, rfl, hFA hA4, h40, by omega, hf, hc, .inl ⟨_, .base .non, by decide +kernel⟩, fun H5 r s5 hr => ?_⟩
    obtain rfl : r = false := by
      cases r with
      | false => rfl
      | true => exact (hr.mp rfl).elim
    refine ⟨_, _, rfl, rfl, _, rfl, iteT ?_⟩
    refine ⟨_, rfl, _, rfl, seqr (s5 _ _ hA4) (s5 _ _ hkp4) ?_⟩
    exact q _ (But.of (s04.trans s5)) ((hG.same (s04.trans s5)).mono (by omega))
  | some x =>
    obtain ⟨t, l, ps⟩ := x
    obtain ⟨hot, hpap, hpl⟩ := told rfl
    have hll := tlen rfl
    rw [hot] at hts
    have hcne : cs ≠ [] := fun z => by rw [z] at hts; cases hts
    rw [statOf_ne hcne] at hts
    have hmin : minI cs = t := (Option.some.inj hts).symm
    have hPV : ∀ {H' : Hp}, ToldV H' v (some (t, l, ps)) → PapV K H' v (some (t, some (l.map ciK), some ps)) := fun h => told_pap h (by omega) (by omega)
    obtain ⟨va, cq, pq, rfl, hva, hrest⟩ := id hv4
    refine ⟨_, rfl, rfl, _, rfl, iteF ?_⟩
    simp only [tNext]
    refine ifs_join (fun σ' H' => σ' = [some (V.ref g), some (V.ref a), some (V.int few), some (V.int cost), some (optV bits), some (V.ref va), none, some (V.ref kp), some (V.ref cp), none, none] ∧ Same H4 H') (fun nx hnx => ?_) ?_
    · refine ⟨_, rfl, va, _, _, _, rfl, rfl, .inl (.inl hva), atI_nat (j := 0) rfl, _, rfl, cp, _, rfl, .inl (.inl hcp4), List.length_pos_iff.mpr hcne, fun M hM hle => ?_⟩
      obtain rfl : M = t := (min_uniq hM hle).trans hmin
      refine ⟨rfl, _, rfl, iteNF rfl ?_⟩
      refine ⟨_, rfl, _, rfl, _, rfl, _, rfl, _, rfl, a, ns, few, cost, bits, _, _, rfl, hFA hA4, hbt, hf, hf3, hc, hPV hv4, fun H5 r s5 hr => ?_⟩
      obtain rfl : r = true := hr.mpr hpap
      exact ⟨_, rfl, iteF (hnx _ _ ⟨rfl, s5⟩)⟩
    rintro _ H5 ⟨rfl, s5⟩
    have s05 := s04.trans s5
    have hv5 := hv4.same s5
    have hgS : GenAt H5 g n := hG.same s05
    have tm : ToldV (Msl [g] H5) (.ref va) (some (t, l, ps)) := told_msl hgS (by obtain ⟨o, h⟩ := hg0; exact ⟨o, s02 _ _ h⟩) hv5 (fun a' t' cp' pp' e h => by
      cases e
      obtain ⟨va', cq', pq', e', h3, _⟩ := hv
      cases e'
      have h5 := s5 _ _ (s4 _ _ h3)
      rw [h] at h5
      cases h5
      exact hvn _ _ _ _ rfl h3)
    refine ⟨_, rfl, (by show 1 ≤ sizeLine; decide), fun lt nlt => ?_⟩
    generalize e0 : upd _ lt _ = H6
    obtain ⟨s6, hlt⟩ := newH nlt e0
    have g6 : GenAt H6 g n := hgS.same s6
    have ltg : lt ≠ g := hgS.ne nlt
    have tm6 := tm.same (msl_mono s6)
    refine ⟨_, rfl, by decide, by decide, fun D nD => ?_⟩
    have Dg : D ≠ g := g6.ne nD
    have kD : ∀ {H' : Hp}, But g H6 H' → Same (Msl [g] H6) (Msl [g, D] H') := fun b c o h => by
      have h1 := msl_same _ _ h
      have n1 : c ≠ g := fun z => msl_in h (List.mem_singleton.mpr z)
      refine msl_at (b c o n1 h1) fun z => ?_
      rcases List.mem_cons.mp z with z | z
      · exact n1 z
      · rw [List.mem_singleton.mp z, nD] at h1; cases h1
    refine lc_range (lo := 0) (n := 8) (fun i H' => But g H6 H' ∧ GenAt H' g (n + 400 * i) ∧ ∃ ys, H' D = some (.lst ys) ∧ ys.length = i ∧ ∀ y ∈ ys, PapE K (Msl [g, D] H') y) ⟨But.of (same_upd nD), g6.same (same_upd nD), [], upd_same, rfl, fun y h => nomatch h⟩ ?_ ?_
    · rintro i H' hi ⟨bB, hGB, ys, hD, hyl, hyp⟩
      refine ⟨rfl, ?_⟩
      unfold tYes
      dsimp only
      rw [if_pos (show true = true from rfl)]
      refine ⟨_, rfl, _, rfl, _, rfl, g, [g, D], .ref a, .ref va, _, (t, l, ps), rfl, List.mem_cons_self, fun d hd => ?_, hGB, by omega, tm6.same (kD bB), by show l.length ≤ 40; omega, by show 1 ≤ ps.length; omega, by show ps.length ≤ 41; omega, fun H7 v7 b7 hG7 hp7 => ?_⟩
      · rcases List.mem_cons.mp hd with rfl | hd
        · obtain ⟨_, _, _, h, _⟩ := hGB; exact ⟨_, h⟩
        · rw [List.mem_singleton.mp hd]; exact ⟨_, hD⟩
      have hD7 := b7 _ _ Dg hD
      have bD : But D H7 (upd H7 D (.lst (ys ++ [v7]))) := fun c o nc h => by rw [upd_ne nc]; exact h
      have kU : Same (Msl [g, D] H7) (Msl [g, D] (upd H7 D (.lst (ys ++ [v7])))) := msl_but (by simp) bD
      refine ⟨ys, hD7, by rw [hyl, sizeLine_eq]; omega, fun c o nc h => ?_, ?_, ys ++ [v7], upd_same, by rw [List.length_append, hyl]; rfl, fun y hy => ?_⟩
      · rw [upd_ne fun z => by rw [z, nD] at h; cases h]
        exact b7 _ _ nc (bB _ _ nc h)
      · obtain ⟨x1, x2, x3, e1, e2, e3⟩ := hG7
        exact ⟨x1, x2, x3, by rw [upd_ne Dg.symm]; exact e1, e2, by omega⟩
      · rcases List.mem_append.mp hy with hy | hy
        · exact ((hyp y hy).same (msl_but (by simp) b7)).same kU
        · rw [List.mem_singleton.mp hy]
          exact hp7.same kU
    rintro H7 ⟨b7, hG7, ys, hD, hyl, hyp⟩
    have hv7 : ToldV H7 (.ref va) (some (t, l, ps)) := (tm6.same (kD b7)).same msl_same
    have hlt7 := b7 _ _ ltg hlt
    have hA7 := b7 _ _ ag (s6 _ _ (s5 _ _ hA4))
    have kpg : kp ≠ g := hG.ne nkp
    have hkp7 := b7 _ _ kpg (s6 _ _ (s5 _ _ hkp4))
    refine ⟨lt, D, _, _, rfl, rfl, hlt7, hD, by rw [hyl, sizeLine_eq]; show 1 + 8 ≤ _; decide, fun th nth => ?_⟩
    generalize e0 : upd _ th _ = H8
    obtain ⟨s8, hth⟩ := newH nth e0
    have b08 : But g H H8 := ((But.of s05).trans (But.of s6)).trans (b7.same s8)
    refine ⟨th, rfl, ⟨_, .inl (.inl hth)⟩, ?_⟩
    refine for_list (K := K) (a := th) (xs := V.ref va :: ys) (fun i σ HA => ∃ v6 v9 : Option V, σ = [some (V.ref g), some (V.ref a), some (V.int few), some (V.int cost), some (optV bits), some (V.ref va), v6, some (V.ref kp), some (V.ref cp), v9, none] ∧ Same H8 HA) ⟨none, none, rfl, Same.refl _⟩ (fun i σ HA _ ⟨_, _, _, s⟩ => .inl (.inl (s _ _ hth))) ?_ ?_
    · rintro i x σ HA hx ⟨v6, v9, rfl, sA⟩
      have hpx : PapE K H7 x := by
        rcases List.mem_cons.mp (List.mem_of_getElem? hx) with rfl | h
        · exact ⟨_, hPV hv7⟩
        · exact (hyp x h).same msl_same
      obtain ⟨pd, hpd⟩ := hpx
      have hpdA := (hpd.same s8).same sA
      have hAA := sA _ _ (s8 _ _ hA7)
      dsimp only [gName]
      refine ⟨_, rfl, _, rfl, _, rfl, _, rfl, _, rfl, a, ns, few, cost, bits, x, pd, rfl, hFA hAA, hbt, hf, hf3, hc, hpdA, fun HB r1 sB hr1 => ?_⟩
      dsimp only [gName]
      refine ⟨_, rfl, _, rfl, _, rfl, _, rfl, _, rfl, a, ns, few, cost, bits, x, pd, rfl, hFA (sB _ _ hAA), h40, by omega, hf, hc, hpdA.same sB, fun HC r2 sC hr2 => ?_⟩
      dsimp only [tNil]
      refine repr_bool ?_
      have er : r2 = r1 := by
        rw [Bool.eq_iff_iff]
        exact hr2.trans hr1.symm
      subst er
      refine ⟨_, rfl, ?_⟩
      dsimp only [tNil]
      refine repr_bool ⟨rfl, _, rfl, iteNF rfl ?_⟩
      exact ⟨_, _, rfl, sA.trans (sB.trans sC)⟩
    · rintro σ HA ⟨v6, v9, rfl, sA⟩
      refine ⟨_, rfl, _, rfl, seqr (sA _ _ (s8 _ _ hA7)) (sA _ _ (s8 _ _ hkp7)) ?_⟩
      exact q _ (b08.same sA) (((hG7.same s8).same sA).mono (by omega))
end
end My

namespace My
open PySem PySem.Spec PyProof.Rows L2 Pre
/-! ### the law's long rows -/
local macro_rules | `(tactic| walk_at "go") => `(tactic| repeat (first | (with_reducible first | refine iteT ?_ | refine iteF ?_ | refine iteNtt ?_ | refine iteNff ?_ | refine iteET (by omega) ?_ | refine iteEF (by omega) ?_ | refine iteENT (by omega) ?_ | refine iteENF (by omega) ?_ | refine iteDT (by omega) ?_ | refine iteDF (by omega) ?_ | refine iteNT (by omega) ?_ | refine iteNF (by omega) ?_) | refine ⟨_, rfl, ?_⟩ | refine ⟨_, _, rfl, rfl, ?_⟩ | refine ⟨_, _, rfl, ?_⟩ | refine ⟨rfl, ?_⟩ | refine .inl ⟨_, rfl, ?_⟩ | refine .inr ⟨_, rfl, ?_⟩))
local macro_rules | `(tactic| walk_at "b") => `(tactic| try dsimp (config := { proj := false, iota := false, eta := false, zeta := false }) only)
section
variable {P : Program} {w : World} {K : PySem.W.Frag} {mg : Str → Option Value} {base : Heap}
def sp_law_long : Sp := fun vs H Q _ => ∃ (g : Addr) (n : Nat), vs = [.ref g] ∧ GenAt H g n ∧ n ≤ 10 ^ 8 ∧ ∀ (H' : Hp) (p : Addr) (ns : List Int), But g H H' → GenAt H' g (n + 100000) → H p = none → H' p = some (.lst (ns.map V.int)) → ns.length ≤ 32 → (∀ x ∈ ns, 0 ≤ x ∧ x < 2 ^ 11) → Q (.ref p) H'
theorem G_law_long (T : Top K mg) : FnOk P w K mg base CX0 3 T.f_law_long T.fd_law_long ["_law_generator_here"] sp_law_long := by
  refine T.F_law_long.ok sc_law_long (fun vs H Q E h => by obtain ⟨g, n, rfl, _⟩ := h; rfl) (fun cdv A outer s H vs Q E hr h => ?_)
  obtain ⟨g, n, rfl, hG, hn, q⟩ := h
  refine ⟨_, PSs.nox (pss_cons (ps_set (i := 1) sc_law_long.nd rfl (by first | exact Or.inl rfl | exact Or.inr rfl) (pe_lst pa_nil))
  (pss_cons (ps_for PassesOwn.never rfl (pi_range1 (by rfl) T.n_range (pa_cons (pe_op op_add pe_int (pe_call (G_law_random T) (hr.mono (by decide)) (by rfl) T.g_law_random T.F_law_random.kp T.b_law_random .nil pass0 (pa_cons (pv 0) (pa_cons pe_int pa_nil)))) pa_nil)) (pg_name (i := 2) sc_law_long.nd rfl (by first | exact Or.inl rfl | exact Or.inr rfl))
    (pss_cons (ps_set (i := 3) sc_law_long.nd rfl (by first | exact Or.inl rfl | exact Or.inr rfl) (pe_op op_shl pe_int (pe_call (G_law_random T) (hr.mono (by decide)) (by rfl) T.g_law_random T.F_law_random.kp T.b_law_random .nil pass0 (pa_cons (pv 0) (pa_cons pe_int pa_nil)))))
  (pss_one (ps_for PassesOwn.never rfl (pi_range1 (by rfl) T.n_range (pa_cons (pe_call (G_law_random T) (hr.mono (by decide)) (by rfl) T.g_law_random T.F_law_random.kp T.b_law_random .nil pass0 (pa_cons (pv 0) (pa_cons pe_int pa_nil))) pa_nil)) (pg_name (i := 4) sc_law_long.nd rfl (by first | exact Or.inl rfl | exact Or.inr rfl))
    (pss_one (ps_expr (pe_bm PySem.F.plainAttrs_list PySem.F.slot_list_append PySem.F.type_list_append mt_append (pv 1) (pa_cons (pe_call (G_law_random T) (hr.mono (by decide)) (by rfl) T.g_law_random T.F_law_random.kp T.b_law_random .nil pass0 (pa_cons (pv 0) (pa_cons (pv 3) pa_nil))) pa_nil))))))))
  (pss_one (ps_ret (pv 1))))), ?_⟩
  refine ⟨(by show 0 ≤ sizeLine; decide), fun p np => ?_⟩
  generalize e0 : upd _ p _ = H1
  obtain ⟨s1, hp⟩ := newH np e0
  have pg : p ≠ g := hG.ne np
  refine ⟨_, rfl, g, 4, n, rfl, hG.same s1, by omega, by decide, small_2900 (by decide), fun d H2 d0 d1 hG2 b2 => ?_⟩
  obtain ⟨dd, rfl⟩ : ∃ dd : Nat, d = (dd : Int) := ⟨d.toNat, by omega⟩
  refine ⟨_, _, rfl, rfl, _, rfl, by omega, by omega, ?_⟩
  have en : (1 + (dd : Int)).toNat = 1 + dd := by omega
  rw [en]
  refine for_range (lo := 0) (n := 1 + dd) (fun i σ HA => ∃ (v2 v3 v4 : Option V) (ms : List Int), σ = [some (.ref g), some (.ref p), v2, v3, v4] ∧ But g H HA ∧ GenAt HA g (n + 100 + 1000 * i) ∧ HA p = some (.lst (ms.map V.int)) ∧ ms.length ≤ 8 * i ∧ ∀ x ∈ ms, 0 ≤ x ∧ x < 2 ^ 11)
    ⟨none, none, none, [], rfl, (But.of s1).trans b2, hG2, b2 _ _ pg hp, Nat.zero_le _, fun x h => nomatch h⟩ ?_ ?_
  · rintro i σ HA hi ⟨v2, v3, v4, ms, rfl, bA, hGA, hpA, hml, hmr⟩
    refine ⟨_, rfl, g, 12, _, rfl, hGA, by omega, by decide, small_2900 (by decide), fun e H3 e0 e1 hG3 b3 => ?_⟩
    obtain ⟨ee, rfl⟩ : ∃ ee : Nat, e = (ee : Int) := ⟨e.toNat, by omega⟩
    refine ⟨_, _, rfl, rfl, ⟨by omega, by omega, by decide⟩, ?_⟩
    dsimp only
    rw [Int.one_mul, Int.toNat_natCast]
    have hp0 := pow_pos' ee
    have hp1 : (2 : Int) ^ ee ≤ 2 ^ 11 := pow2_le (by omega)
    refine ⟨_, rfl, g, 9, _, rfl, hG3, by omega, by decide, small_2900 (by decide), fun f H4 f0 f1 hG4 b4 => ?_⟩
    obtain ⟨ff, rfl⟩ : ∃ ff : Nat, f = (ff : Int) := ⟨f.toNat, by omega⟩
    refine ⟨_, rfl, by omega, by omega, ?_⟩
    rw [Int.toNat_natCast]
    generalize (2 : Int) ^ ee = lo at *
    refine for_range (lo := 0) (n := ff) (fun j σ HB => ∃ (v4 : Option V) (ms : List Int), σ = [some (.ref g), some (.ref p), some (.int (0 + (i : Int))), some (.int lo), v4] ∧ But g H HB ∧ GenAt HB g (n + 100 + 1000 * i + 100 + 100 + 100 * j) ∧ HB p = some (.lst (ms.map V.int)) ∧ ms.length ≤ 8 * i + j ∧ ∀ x ∈ ms, 0 ≤ x ∧ x < 2 ^ 11)
      ⟨v4, ms, rfl, (bA.trans b3).trans b4, hG4, b4 _ _ pg (b3 _ _ pg hpA), by omega, hmr⟩ ?_ ?_
    · rintro j σ HB hj ⟨w4, ks, rfl, bB, hGB, hpB, hkl, hkr⟩
      refine ⟨_, rfl, .inl ⟨rfl, _, .inl (.inl hpB)⟩, _, rfl, _, rfl, g, lo, _, rfl, hGB, by omega, by omega, small_2900 (by omega), fun x H5 x0 x1 hG5 b5 => ?_⟩
      refine ⟨p, _, _, rfl, rfl, b5 _ _ pg hpB, by rw [List.length_map, sizeLine_eq]; omega, ?_⟩
      refine ⟨_, ks ++ [x], rfl, fun c o nc h => ?_, ?_, ?_, by rw [List.length_append]; show ks.length + 1 ≤ _; omega, fun y hy => ?_⟩
      · rw [upd_ne fun z => by rw [z, np] at h; cases h]
        exact b5 _ _ nc (bB _ _ nc h)
      · obtain ⟨x1, x2, x3, e1, e2, e3⟩ := hG5
        exact ⟨x1, x2, x3, by rw [upd_ne pg.symm]; exact e1, e2, by omega⟩
      · rw [upd_same, List.map_append]
        rfl
      · rcases List.mem_append.mp hy with hy | hy
        · exact hkr y hy
        · rw [List.mem_singleton.mp hy]; omega
    · rintro σ HB ⟨w4, ks, rfl, bB, hGB, hpB, hkl, hkr⟩
      exact ⟨_, _, _, ks, rfl, bB, hGB.mono (by omega), hpB, by omega, hkr⟩
  · rintro σ HA ⟨v2, v3, v4, ms, rfl, bA, hGA, hpA, hml, hmr⟩
    exact ⟨_, rfl, q _ p ms bA (hGA.mono (by omega)) np hpA (by omega) hmr⟩
end
end My

namespace My
open PySem PySem.Spec PyProof.Rows L2 Pre
/-! ### the law -/
theorem know1 : (toldP none 1 5 [0, 0, 7, 0, 0]).map (fun x => (x.1, x.2.1)) = some (17, [(5, some 0)]) := by decide +kernel
theorem know2 : toldP none 2 5 [5] = none := by decide +kernel
theorem know3 : (toldP none 2 1 [0, 0, 0, 7, 7, 7]).map (fun x => x.1) = some 17 := by decide +kernel
theorem know4 : (toldP none 3 5 []).map (fun x => (x.1, x.2.1)) = some (0, []) := by decide +kernel
def kdD : Kd → PyData
  | none => .none
  | some w => .int (w : Int)
def cutD (q : Nat × Kd) : PyData := .tuple [.int (q.1 : Int), kdD q.2]
def toldD : Option (Int × List (Nat × Kd) × List Int) → PyData
  | none => .none
  | some (t, cs, ps) => .tuple [.int t, .list (cs.map cutD), .list (ps.map PyData.int)]
theorem kd_dt {H : Hp} (k : Kd) : Dt H (kdV k) (kdD k) := by
  cases k with
  | none => exact .non
  | some w => exact .int _
theorem cuts_dt {H : Hp} : ∀ (cs : List (Nat × Kd)) (ys : List V), ys.length = cs.length → (∀ (i : Nat) (c : V) (x : Nat × Kd), ys[i]? = some c → cs[i]? = some x → ∃ t, c = .ref t ∧ H t = some (.tup [.int (x.1 : Int), kdV x.2])) → DtA H ys (cs.map cutD)
  | [], [], _, _ => .nil
  | [], _ :: _, h, _ => by cases h
  | _ :: _, [], h, _ => by cases h
  | q :: cs, y :: ys, h, k => by
    obtain ⟨t, rfl, ht⟩ := k 0 y q rfl rfl
    exact .cons (.tup ht (.cons (.int _) (.cons (kd_dt _) .nil))) (cuts_dt cs ys (Nat.succ.inj h) fun i c x h1 h2 => k (i + 1) c x h1 h2)
theorem told_dt {H : Hp} {v : V} {x : Option (Int × List (Nat × Kd) × List Int)} (h : ToldV H v x) : Dt H v (toldD x) := by
  cases x with
  | none => obtain rfl : v = .non := h; exact .non
  | some q =>
    obtain ⟨t, cs, ps⟩ := q
    obtain ⟨a, cp, pp, rfl, h1, ⟨ys, h2, h3, h4⟩, h5⟩ := h
    exact .tup h1 (.cons (.int _) (.cons (.lst h2 (cuts_dt cs ys h3 h4)) (.cons (.lst h5 (DtA.ints ps)) .nil)))
theorem cut_lay (q : Nat × Kd) : PyData.canLay0 (cutD q) = true ∧ PyData.depth (cutD q) ≤ 1 := by
  obtain ⟨n, k⟩ := q
  unfold cutD
  cases k with
  | none => exact ⟨rfl, by rw [PyData.depth]; simp [kdD, PyData.depthAll, PyData.depth]⟩
  | some w => exact ⟨rfl, by rw [PyData.depth]; simp [kdD, PyData.depthAll, PyData.depth]⟩
theorem cuts_lay (cs : List (Nat × Kd)) : PyData.canLayAll0 (cs.map cutD) = true ∧ PyData.depthAll (cs.map cutD) ≤ 1 := by
  induction cs with
  | nil => exact ⟨rfl, by show PyData.depthAll [] ≤ 1; rw [PyData.depthAll]; decide⟩
  | cons q cs ih =>
    obtain ⟨h1, h2⟩ := cut_lay q
    obtain ⟨h3, h4⟩ := ih
    refine ⟨?_, ?_⟩
    · show (PyData.canLay0 (cutD q) && PyData.canLayAll0 (cs.map cutD)) = true
      rw [h1, h3]
      rfl
    · show PyData.depthAll (cutD q :: cs.map cutD) ≤ 1
      rw [PyData.depthAll]
      omega
theorem told_shaped (x : Option (Int × List (Nat × Kd) × List Int)) : SeqAt.shaped (toldD x) = true := by
  cases x with
  | none => rfl
  | some q =>
    obtain ⟨t, cs, ps⟩ := q
    obtain ⟨h1, h2⟩ := cuts_lay cs
    have e1 : PyData.canLay0 (toldD (some (t, cs, ps))) = true := by
      show (true && (PyData.canLayAll0 (cs.map cutD) && (PyData.canLayAll0 (ps.map PyData.int) && true))) = true
      rw [h1, lay_ints]
      rfl
    have e2 : PyData.depth (toldD (some (t, cs, ps))) ≤ 64 := by
      unfold toldD
      simp only [PyData.depth, PyData.depthAll, depth_ints]
      omega
    show (PyData.canLay0 (toldD (some (t, cs, ps))) && decide (PyData.depth (toldD (some (t, cs, ps))) ≤ 64)) = true
    rw [e1, decide_eq_true e2]
    rfl
theorem pick_int {xs : List Int} {d : Int} (h0 : 0 ≤ d) (h1 : d < (xs.length : Nat)) : ∃ x ∈ xs, atI (xs.map V.int) d = some (.int x) := by
  obtain ⟨k, rfl⟩ : ∃ k : Nat, d = (k : Int) := ⟨d.toNat, by omega⟩
  have hk : k < xs.length := by omega
  exact ⟨xs[k], List.getElem_mem hk, atI_nat (by rw [List.getElem?_map, List.getElem?_eq_getElem hk]; rfl)⟩
theorem pick_v {xs : List V} {d : Int} (h0 : 0 ≤ d) (h1 : d < (xs.length : Nat)) : ∃ x ∈ xs, atI xs d = some x := by
  obtain ⟨k, rfl⟩ : ∃ k : Nat, d = (k : Int) := ⟨d.toNat, by omega⟩
  have hk : k < xs.length := by omega
  exact ⟨xs[k], List.getElem_mem hk, atI_nat (List.getElem?_eq_getElem hk)⟩
theorem bits_of : ∀ x ∈ [V.non, .non, .int 0, .int 1, .int 3, .int 6], ∃ b : Option Nat, x = optV b ∧ b.getD 0 ≤ 6 := by
  intro x hx
  simp only [List.mem_cons, List.not_mem_nil, or_false] at hx
  rcases hx with rfl | rfl | rfl | rfl | rfl | rfl
  · exact ⟨none, rfl, by decide⟩
  · exact ⟨none, rfl, by decide⟩
  · exact ⟨some 0, rfl, by decide⟩
  · exact ⟨some 1, rfl, by decide⟩
  · exact ⟨some 3, rfl, by decide⟩
  · exact ⟨some 6, rfl, by decide⟩
local macro_rules | `(tactic| walk_at "go") => `(tactic| repeat (first | (with_reducible first | refine iteT ?_ | refine iteF ?_ | refine iteNtt ?_ | refine iteNff ?_ | refine iteET (by omega) ?_ | refine iteEF (by omega) ?_ | refine iteENT (by omega) ?_ | refine iteENF (by omega) ?_ | refine iteDT (by omega) ?_ | refine iteDF (by omega) ?_ | refine iteNT (by omega) ?_ | refine iteNF (by omega) ?_) | refine ⟨_, rfl, ?_⟩ | refine ⟨_, _, rfl, rfl, ?_⟩ | refine ⟨_, _, rfl, ?_⟩ | refine ⟨rfl, ?_⟩ | refine .inl ⟨_, rfl, ?_⟩ | refine .inr ⟨_, rfl, ?_⟩))
local macro_rules | `(tactic| walk_at "b") => `(tactic| try dsimp (config := { proj := false, iota := false, eta := false, zeta := false }) only)
section
variable {P : Program} {w : World} {K : PySem.W.Frag} {mg : Str → Option Value} {base : Heap}
def sp_law (K : PySem.W.Frag) : Sp := fun vs H Q _ => ∃ (a : Addr) (ns : List Int), vs = [.ref a] ∧ SqL K H a (ns.map V.int) ∧ ns.length ≤ 63 ∧ ∀ H', Q (.bl true) H'
theorem G_law (T : Top K mg) : FnG P w K mg base CX0 17 T.f_law T.fd_law ["_law_script"] (sp_law K) := by
  refine FnG.body T.F_law sc_law (fun vs H Q E h => by obtain ⟨a, ns, rfl, _⟩ := h; rfl) (fun cdv A outer s H vs Q E gd hr h => ?_)
  obtain ⟨a, ns, rfl, hS, _, q⟩ := h
  refine ⟨_, PSs.nox (pss_cons (ps_set (i := 1) sc_law.nd rfl (by first | exact Or.inl rfl | exact Or.inr rfl) (pe_call (G_law_generator T) (hr.mono (by decide)) (by rfl) T.g_law_generator T.F_law_generator.kp T.b_law_generator .nil pass0 (pa_cons (pv 0) (pa_cons pe_int pa_nil))))
  (pss_cons (ps_set (i := 2) sc_law.nd rfl (by first | exact Or.inl rfl | exact Or.inr rfl) (pe_ix (k_ixL K rfl) (pe_lst (pa_cons pe_int (pa_cons pe_int (pa_cons pe_int (pa_cons pe_int pa_nil))))) (pe_call (G_law_random T) (hr.mono (by decide)) (by rfl) T.g_law_random T.F_law_random.kp T.b_law_random .nil pass0 (pa_cons (pv 1) (pa_cons pe_int pa_nil))) (fun _ _ => rfl)))
  (pss_cons (ps_setLc (i := 3) (own := [("_law_turn", 8)]) (g := gName 8) (tt := tYes) (by rfl) sc_law.nd rfl rfl (sw_true rfl rfl rfl (by decide +kernel)) (pi_range1 (by rfl) T.n_range (pa_cons (pe_call (G_law_random T) (hr.mono (by decide)) (by rfl) T.g_law_random T.F_law_random.kp T.b_law_random .nil pass0 (pa_cons (pv 1) (pa_cons pe_int pa_nil))) pa_nil)) (blkOk_by (own := [("_law_turn", 8)]) (N := N_law) (sc := defScope s_law) (by decide +kernel)) (fun _ _ _ _ _ => (pg_name (i := 8) sc_law.nd rfl (by first | exact Or.inl rfl | exact Or.inr rfl))) (fun _ _ _ _ _ => pts_nil) (fun _ _ _ _ _ => (pe_call (G_law_random T) (hr.mono (by decide)) (by rfl) T.g_law_random T.F_law_random.kp T.b_law_random .nil pass0 (pa_cons (pv 1) (pa_cons (pe_ix (k_ixL K rfl) (pe_lst (pa_cons pe_int (pa_cons (pv 2) pa_nil))) (pe_call (G_law_random T) (hr.mono (by decide)) (by rfl) T.g_law_random T.F_law_random.kp T.b_law_random .nil pass0 (pa_cons (pv 1) (pa_cons pe_int pa_nil))) (fun _ _ => rfl)) pa_nil)))))
  (pss_cons (ps_par (by rfl) sc_law.nd (i := 6) (j := 7) rfl rfl (by decide) rfl rfl (pa_cons (pe_ix (k_ixL K rfl) (pe_lst (pa_cons pe_int (pa_cons pe_int (pa_cons pe_int (pa_cons pe_int pa_nil))))) (pe_call (G_law_random T) (hr.mono (by decide)) (by rfl) T.g_law_random T.F_law_random.kp T.b_law_random .nil pass0 (pa_cons (pv 1) (pa_cons pe_int pa_nil))) (fun _ _ => rfl)) (pa_cons (pe_ix (k_ixL K rfl) (pe_lst (pa_cons pe_int (pa_cons pe_int (pa_cons pe_int (pa_cons pe_int (pa_cons pe_int pa_nil)))))) (pe_call (G_law_random T) (hr.mono (by decide)) (by rfl) T.g_law_random T.F_law_random.kp T.b_law_random .nil pass0 (pa_cons (pv 1) (pa_cons pe_int pa_nil))) (fun _ _ => rfl)) pa_nil)) (by rfl))
  (pss_cons (ps_set (i := 4) sc_law.nd rfl (by first | exact Or.inl rfl | exact Or.inr rfl) (pe_ix (k_ixL K rfl) (pe_lst (pa_cons pe_non (pa_cons pe_non (pa_cons pe_int (pa_cons pe_int (pa_cons pe_int (pa_cons pe_int pa_nil))))))) (pe_call (G_law_random T) (hr.mono (by decide)) (by rfl) T.g_law_random T.F_law_random.kp T.b_law_random .nil pass0 (pa_cons (pv 1) (pa_cons pe_int pa_nil))) (fun _ _ => rfl)))
  (pss_cons (ps_if (pt_not (pt_val (pe_callG (G_law_small_right T) gd (hr.mono (by decide)) (by rfl) T.g_law_small_right T.F_law_small_right.kp T.b_law_small_right .nil pass0 (pa_cons (pv 1) (pa_cons (pv 3) (pa_cons (pv 6) (pa_cons (pv 7) (pa_cons (pv 4) pa_nil))))))))
    (pss_one (ps_ret pe_bl))
    pss_nil)
  (pss_cons (ps_set (i := 3) sc_law.nd rfl (by first | exact Or.inl rfl | exact Or.inr rfl) (pe_call (G_law_long T) (hr.mono (by decide)) (by rfl) T.g_law_long T.F_law_long.kp T.b_law_long .nil pass0 (pa_cons (pv 1) pa_nil)))
  (pss_cons (ps_set (i := 5) sc_law.nd rfl (by first | exact Or.inl rfl | exact Or.inr rfl) (pe_call (G_least_cuts T) (hr.mono (by decide)) (by rfl) T.g_least_cuts T.F_least_cuts.kp T.b_least_cuts .nil pass0 (pa_cons (pv 3) (pa_cons (pv 6) (pa_cons (pv 7) (pa_cons (pv 4) pa_nil))))))
  (pss_cons (ps_if (pt_cmpR op_isN (pv 5) pe_non (nomark _))
    (pss_one (ps_ret (pe_chain op_lt op_lt pe_int (pe_callB (k_len K rfl) (by rfl) T.n_len (by decide +kernel) (pa_cons (pv 3) pa_nil)) (pv 6))))
    pss_nil)
  (pss_cons (ps_if (PW.pt (pw_or (pt_not (pt_val (pe_call (G_law_paper T) (hr.mono (by decide)) (by rfl) T.g_law_paper T.F_law_paper.kp T.b_law_paper .nil pass0 (pa_cons (pv 3) (pa_cons (pv 6) (pa_cons (pv 7) (pa_cons (pv 4) (pa_cons (pv 5) pa_nil)))))))) (pw_or1 (pt_not (pt_val (pe_call (G_is_cuts_paper T) (hr.mono (by decide)) (by rfl) T.g_is_cuts_paper T.F_is_cuts_paper.kp T.b_is_cuts_paper .nil pass0 (pa_cons (pv 3) (pa_cons (pv 6) (pa_cons (pv 7) (pa_cons (pv 4) (pa_cons (pv 5) pa_nil)))))))))))
    (pss_one (ps_ret pe_bl))
    pss_nil)
  (pss_cons (ps_if (pt_cmpR (k_neD K rfl hr.units) (pe_call (G_least_cuts T) (hr.mono (by decide)) (by rfl) T.g_least_cuts T.F_least_cuts.kp T.b0_least_cuts T.v0_least_cuts pass0 (pa_cons (pv 3) (pa_cons (pv 6) (pa_cons (pv 7) pa_nil)))) (pe_call (G_least_cuts T) (hr.mono (by decide)) (by rfl) T.g_least_cuts T.F_least_cuts.kp T.b_least_cuts .nil pass0 (pa_cons (pv 3) (pa_cons (pv 6) (pa_cons (pv 7) (pa_cons pe_non pa_nil))))) (nomark _))
    (pss_one (ps_ret pe_bl))
    pss_nil)
  (pss_cons (ps_if (pt_cmpR (k_neD K rfl hr.units) (pe_lst (pa_cons (pe_slice (k_slT K rfl) (pe_call (G_least_cuts T) (hr.mono (by decide)) (by rfl) T.g_least_cuts T.F_least_cuts.kp T.b0_least_cuts T.v0_least_cuts pass0 (pa_cons (pe_lst (pa_cons pe_int (pa_cons pe_int (pa_cons pe_int (pa_cons pe_int (pa_cons pe_int pa_nil)))))) (pa_cons pe_int (pa_cons pe_int pa_nil)))) po_none (po_some pe_int)) (pa_cons (pe_call (G_least_cuts T) (hr.mono (by decide)) (by rfl) T.g_least_cuts T.F_least_cuts.kp T.b0_least_cuts T.v0_least_cuts pass0 (pa_cons (pe_lst (pa_cons pe_int pa_nil)) (pa_cons pe_int (pa_cons pe_int pa_nil)))) pa_nil))) (pe_lst (pa_cons (pe_tup (pa_cons pe_int (pa_cons (pe_lst (pa_cons (pe_tup (pa_cons pe_int (pa_cons pe_int pa_nil))) pa_nil)) pa_nil))) (pa_cons pe_non pa_nil))) (nomark _))
    (pss_one (ps_ret pe_bl))
    pss_nil)
  (pss_one (ps_ret (pe_and (pe_cmpR op_eq (pe_ix (k_ixT K rfl) (pe_call (G_least_cuts T) (hr.mono (by decide)) (by rfl) T.g_least_cuts T.F_least_cuts.kp T.b0_least_cuts T.v0_least_cuts pass0 (pa_cons (pe_lst (pa_cons pe_int (pa_cons pe_int (pa_cons pe_int (pa_cons pe_int (pa_cons pe_int (pa_cons pe_int pa_nil))))))) (pa_cons pe_int (pa_cons pe_int pa_nil)))) pe_int (fun _ _ => rfl)) pe_int (nomark _)) (pe_one (pe_cmpR (k_eqD K rfl hr.units) (pe_slice (k_slT K rfl) (pe_call (G_least_cuts T) (hr.mono (by decide)) (by rfl) T.g_least_cuts T.F_least_cuts.kp T.b0_least_cuts T.v0_least_cuts pass0 (pa_cons (pe_lst pa_nil) (pa_cons pe_int (pa_cons pe_int pa_nil)))) po_none (po_some pe_int)) (pe_tup (pa_cons pe_int (pa_cons (pe_lst pa_nil) pa_nil))) (nomark _)))))))))))))))))), ?_⟩
  refine ⟨_, rfl, a, ns, 0, rfl, hS, fun H1 g s1 g0 hG => ?_⟩
  -- how loud
  refine ⟨(by show 4 ≤ sizeLine; decide), fun l1 n1 => ?_⟩
  generalize e0 : upd _ l1 _ = H2
  obtain ⟨s2, hl1⟩ := newH n1 e0
  refine ⟨_, rfl, g, 4, _, rfl, hG.same s2, by decide, by decide, small_2900 (by decide), fun d H3 d0 d1 hG3 b3 => ?_⟩
  obtain ⟨lo, hlo, elo⟩ := pick_int (xs := [2, 5, 40, 300]) d0 d1
  have blo : 1 ≤ lo ∧ lo ≤ 300 := (show ∀ x ∈ [(2 : Int), 5, 40, 300], 1 ≤ x ∧ x ≤ 300 by decide) lo hlo
  refine ⟨l1, _, _, _, rfl, rfl, .inl (.inl (b3 _ _ (hG.ne n1) hl1)), elo, ?_⟩
  clear hlo elo d0 d1 d
  -- few folds
  refine ⟨_, rfl, g, 9, _, rfl, hG3, by decide, by decide, small_2900 (by decide), fun d H4 d0 d1 hG4 b4 => ?_⟩
  obtain ⟨dd, rfl⟩ : ∃ dd : Nat, d = (dd : Int) := ⟨d.toNat, by omega⟩
  refine ⟨_, rfl, by omega, by omega, fun D nD => ?_⟩
  rw [Int.toNat_natCast]
  have Dg := hG4.ne nD
  refine lc_drawR (lo := 0) (n := dd) g _ 200 (fun y => 0 ≤ y ∧ y < 300) nD hG4 (small1000 (by omega)) (fun x => rfl) ?_ ?_
  · intro i H' hi bB hGB Qt qt
    refine ⟨_, rfl, _, rfl, (by show 2 ≤ sizeLine; decide), fun l2 n2 => ?_⟩
    generalize e0 : upd _ l2 _ = H5
    obtain ⟨s5, hl2⟩ := newH n2 e0
    refine ⟨_, rfl, g, 2, _, rfl, hGB.same s5, by omega, by decide, small_2900 (by decide), fun d H6 d0 d1 hG6 b6 => ?_⟩
    obtain ⟨x, hx, ex⟩ := pick_int (xs := [1, lo]) d0 d1
    have bx : 1 ≤ x ∧ x ≤ 300 := by
      rcases List.mem_cons.mp hx with rfl | hx
      · decide
      · rw [List.mem_singleton.mp hx]; exact blo
    refine ⟨l2, _, _, _, rfl, rfl, .inl (.inl (b6 _ _ (hGB.ne n2) hl2)), ex, ?_⟩
    refine ⟨g, x, _, rfl, hG6, by omega, by omega, small_2900 (by omega), fun y H7 y0 y1 hG7 b7 => ?_⟩
    exact qt y H7 ⟨y0, by omega⟩ (((But.of s5).trans b6).trans b7) (hG7.mono (by omega))
  intro H5 fs b5 hG5 hD hfl hfr
  have hg5 : GenAt H5 g 2300 := hG5.mono (by omega)
  clear hG5
  dsimp only [gName]
  show tSeq (tPar _ _ _) _ _ [some (V.ref a), some (V.ref g), some (V.int lo), some (V.ref D), none, none, none, none, none] _
  -- a least length, a cost
  refine ⟨(by show 4 ≤ sizeLine; decide), fun l2 n2 => ?_⟩
  generalize e0 : upd _ l2 _ = H6
  obtain ⟨s6, hl2⟩ := newH n2 e0
  refine ⟨_, rfl, g, 4, _, rfl, hg5.same s6, by decide, by decide, small_2900 (by decide), fun d2 H7 d20 d21 hG7 b7 => ?_⟩
  obtain ⟨fi, hfi, efi⟩ := pick_int (xs := [1, 1, 2, 3]) d20 d21
  have bfi : 1 ≤ fi ∧ fi ≤ 3 := (show ∀ x ∈ [(1 : Int), 1, 2, 3], 1 ≤ x ∧ x ≤ 3 by decide) fi hfi
  obtain ⟨few, rfl⟩ : ∃ few : Nat, fi = (few : Int) := ⟨fi.toNat, by omega⟩
  refine ⟨l2, _, _, _, rfl, rfl, .inl (.inl (b7 _ _ (hg5.ne n2) hl2)), efi, ?_⟩
  refine ⟨(by show 5 ≤ sizeLine; decide), fun l3 n3 => ?_⟩
  generalize e0 : upd _ l3 _ = H8
  obtain ⟨s8, hl3⟩ := newH n3 e0
  refine ⟨_, rfl, g, 5, _, rfl, hG7.same s8, by decide, by decide, small_2900 (by decide), fun d3 H9 d30 d31 hG9 b9 => ?_⟩
  obtain ⟨cost, hco, eco⟩ := pick_int (xs := [0, 1, 2, 5, 9]) d30 d31
  have bco : 0 ≤ cost ∧ cost ≤ 9 := (show ∀ x ∈ [(0 : Int), 1, 2, 5, 9], 0 ≤ x ∧ x ≤ 9 by decide) cost hco
  refine ⟨l3, _, _, _, rfl, rfl, .inl (.inl (b9 _ _ (hG7.ne n3) hl3)), eco, ?_⟩
  refine ⟨_, _, rfl, ?_⟩
  -- bits
  dsimp only
  show tSeq (tAsg _ _) _ _ [some (V.ref a), some (V.ref g), some (V.int lo), some (V.ref D), none, none, some (V.int (few : Int)), some (V.int cost), none] _
  refine ⟨(by show 6 ≤ sizeLine; decide), fun l4 n4 => ?_⟩
  generalize e0 : upd _ l4 _ = HA
  obtain ⟨sA, hl4⟩ := newH n4 e0
  refine ⟨_, rfl, g, 6, _, rfl, hG9.same sA, by decide, by decide, small_2900 (by decide), fun d4 HB d40 d41 hGB bB => ?_⟩
  obtain ⟨bx, hbx, ebx⟩ := pick_v (xs := [V.non, .non, .int 0, .int 1, .int 3, .int 6]) d40 d41
  obtain ⟨bits, rfl, hb6⟩ := bits_of bx hbx
  refine ⟨l4, _, _, _, rfl, rfl, .inl (.inl (bB _ _ (hG9.ne n4) hl4)), ebx, ?_⟩
  have b5B : But g H5 HB := ((((But.of s6).trans b7).trans (But.of s8)).trans b9).trans ((But.of sA).trans bB)
  have hDB := b5B _ _ Dg hD
  dsimp only [gName]
  show tSeq (tIfS _ _ _) _ _ [some (V.ref a), some (V.ref g), some (V.int lo), some (V.ref D), some (optV bits), none, some (V.int (few : Int)), some (V.int cost), none] _
  have p9 : (2 : Int) ^ 12 = 4096 := by decide
  refine ⟨_, rfl, _, rfl, _, rfl, _, rfl, _, rfl, g, D, _, fs, few, cost, bits, rfl, hGB, by decide, Dg, hDB, fun x hx => ?_, by omega, fun x hx => ?_, by omega, by omega, bco.1, bco.2, by omega, fun HC bC hGC => ⟨_, rfl, iteF ?_⟩⟩
  · have := hfr x hx
    have : (2 : Int) ^ 40 = 1099511627776 := by decide
    omega
  · have := hfr x hx
    omega
  simp only [tNext]
  show tSeq (tAsg _ _) _ _ [some (V.ref a), some (V.ref g), some (V.int lo), some (V.ref D), some (optV bits), none, some (V.int (few : Int)), some (V.int cost), none] _
  clear hfr hfl hD hDB b5B
  refine ⟨_, rfl, g, _, rfl, hGC, by decide, fun HD p ls bD hGD np hp hll hlr => ?_⟩
  have hlF : Folds ls := fun x hx => by
    have := hlr x hx
    have : (2 : Int) ^ 40 = 1099511627776 := by decide
    have : (2 : Int) ^ 11 = 2048 := by decide
    omega
  have hl40 : hb ls ≤ 40 := (hb_le 40 hlF.nn).mpr fun x hx => (hlF x hx).2
  have hl1000 : ls.length ≤ 1000 := by omega
  have hFA : ∀ {H' : Hp}, H' p = some (.lst (ls.map V.int)) → FoldsAt K H' p ls := fun h => ⟨.inl h, hlF, hl1000⟩
  have hf : 1 ≤ few := by omega
  have hf3 : few ≤ 3 := by omega
  dsimp only [gName]
  show tSeq (tAsg _ _) _ _ [some (V.ref a), some (V.ref g), some (V.int lo), some (V.ref p), some (optV bits), none, some (V.int (few : Int)), some (V.int cost), none] _
  refine ⟨_, rfl, _, rfl, _, rfl, _, rfl, p, ls, few, cost, bits, rfl, hFA hp, hl40, by omega, hf, bco.1, fun HE v sE hv hvn => ?_⟩
  have hpE := sE _ _ hp
  dsimp only [gName]
  show tSeq (tIfS _ _ _) _ _ [some (V.ref a), some (V.ref g), some (V.int lo), some (V.ref p), some (optV bits), some v, some (V.int (few : Int)), some (V.int cost), none] _
  have told := @told_paper bits few cost ls hf hlF hl40 bco.1
  have tlen := @told_len bits few cost ls hf hlF hl40
  have tnone : toldP bits few cost ls = none → tot (bits.getD 0) few cost ls (kinds ls bits) ls.length = none := fun h => by
    unfold toldP at h
    exact Option.map_eq_none_iff.mp h
  generalize hto : toldP bits few cost ls = to at *
  cases to with
  | none =>
    obtain rfl : v = .non := hv
    refine ⟨_, rfl, rfl, _, rfl, iteT ?_⟩
    have h1 := (tot_none (bits := bits) (few := few) (cost := cost) hf hlF hl40 (Nat.le_refl _)).mp (tnone rfl)
    refine ⟨_, rfl, p, _, rfl, .inl (.inl (.inl hpE)), _, _, rfl, rfl, _, rfl, ?_⟩
    rw [List.length_map, decide_eq_true (show (0 : Int) < (ls.length : Nat) by omega)]
    have hq : Q (.bl (decide (((ls.length : Nat) : Int) < ((few : Nat) : Int)))) HE := by
      rw [decide_eq_true (show ((ls.length : Nat) : Int) < (few : Nat) by omega)]
      exact q _
    exact iteT ⟨_, rfl, _, _, rfl, rfl, hq⟩
  | some x =>
    obtain ⟨t, l, ps⟩ := x
    obtain ⟨hot, hpap, hpl⟩ := told rfl
    have hlen := tlen rfl
    have hPV : ∀ {H' : Hp}, Same HE H' → PapV K H' v (some (t, some (l.map ciK), some ps)) := fun s => told_pap (hv.same s) (by omega) (by omega)
    obtain ⟨va, _, _, rfl, _⟩ := id hv
    refine ⟨_, rfl, rfl, _, rfl, iteF ?_⟩
    simp only [tNext]
    refine ifs_join (fun σ' H' => σ' = [some (V.ref a), some (V.ref g), some (V.int lo), some (V.ref p), some (optV bits), some (V.ref va), some (V.int (few : Int)), some (V.int cost), none] ∧ Same HE H') (fun nx hnx => ?_) ?_
    · refine ⟨_, rfl, _, rfl, _, rfl, _, rfl, _, rfl, p, ls, few, cost, bits, _, _, rfl, hFA hpE, by omega, hf, hf3, bco.1, hPV (Same.refl _), fun HF r sF hr => ?_⟩
      obtain rfl : r = true := hr.mpr hpap
      refine ⟨_, rfl, iteF ?_⟩
      refine ⟨_, rfl, _, rfl, _, rfl, _, rfl, _, rfl, p, ls, few, cost, bits, _, _, rfl, hFA (sF _ _ hpE), hl40, by omega, hf, bco.1, hPV sF, fun HG r2 sG hr2 => ?_⟩
      obtain rfl : r2 = true := hr2.mpr hpap
      exact ⟨_, rfl, iteF (hnx _ _ ⟨rfl, sF.trans sG⟩)⟩
    rintro _ HF ⟨rfl, sF⟩
    have hpF := sF _ _ hpE
    refine ifs_join (fun σ' H' => σ' = [some (V.ref a), some (V.ref g), some (V.int lo), some (V.ref p), some (optV bits), some (V.ref va), some (V.int (few : Int)), some (V.int cost), none] ∧ Same HF H') (fun nx hnx => ?_) ?_
    · refine ⟨_, rfl, _, rfl, _, rfl, p, ls, few, cost, none, rfl, hFA hpF, hl40, by decide, hf, bco.1, fun HG v1 sG hv1 _ => ?_⟩
      refine ⟨_, rfl, _, rfl, _, rfl, p, ls, few, cost, none, rfl, hFA (sG _ _ hpF), hl40, by decide, hf, bco.1, fun HH v2 sH hv2 _ => ?_⟩
      refine d_ne (told_dt (hv1.same sH)) (told_dt hv2) (told_shaped _) (told_shaped _) ?_
      rw [SeqAt.eqv_refl _ (Bool.and_eq_true_iff.mp (told_shaped _)).1]
      exact ⟨_, rfl, iteF (hnx _ _ ⟨rfl, sG.trans sH⟩)⟩
    rintro _ HG ⟨rfl, sG⟩
    clear told tlen tnone hpap hot hPV hto hv hvn
    -- what is known
    have fold7 : ∀ {xs : List Int}, (∀ x ∈ xs, 0 ≤ x ∧ x < 8) → Folds xs := fun h x hx => by
      have := h x hx
      have : (2 : Int) ^ 40 = 1099511627776 := by decide
      omega
    refine ifs_join (fun σ' H' => σ' = [some (V.ref a), some (V.ref g), some (V.int lo), some (V.ref p), some (optV bits), some (V.ref va), some (V.int (few : Int)), some (V.int cost), none]) (fun nx hnx => ?_) ?_
    · refine ⟨(by show 5 ≤ sizeLine; decide), fun L1 nL1 => ?_⟩
      generalize e0 : upd _ L1 _ = A1
      obtain ⟨t1, hL1⟩ := newH nL1 e0
      refine ⟨L1, [0, 0, 7, 0, 0], 1, 5, none, rfl, ⟨.inl hL1, fold7 (by decide), by decide⟩, by decide +kernel, by decide, by decide, by decide, fun A2 v1 t2 hv1 _ => ?_⟩
      obtain ⟨ps1, e1⟩ : ∃ ps1, toldP none 1 5 [0, 0, 7, 0, 0] = some (17, [(5, some 0)], ps1) := by
        have k := know1
        cases e : toldP none 1 5 [0, 0, 7, 0, 0] with
        | none => rw [e] at k; cases k
        | some y =>
          obtain ⟨y1, y2, y3⟩ := y
          rw [e] at k
          cases k
          exact ⟨y3, rfl⟩
      rw [e1] at hv1
      obtain ⟨u1, c1, p1, rfl, hu1, ⟨ys1, hc1, hy1, hy2⟩, _⟩ := hv1
      refine ⟨_, rfl, u1, _, rfl, .inl (.inl hu1), (by show ¬ (0 = 0 ∧ 2 = 3); decide), fun q1 nq1 => ?_⟩
      generalize e0 : upd _ q1 _ = A3
      obtain ⟨t3, hq1⟩ := newH nq1 e0
      refine ⟨(by show 1 ≤ sizeLine; decide), fun L2 nL2 => ?_⟩
      generalize e0 : upd _ L2 _ = A4
      obtain ⟨t4, hL2⟩ := newH nL2 e0
      refine ⟨L2, [5], 2, 5, none, rfl, ⟨.inl hL2, fold7 (by decide), by decide⟩, by decide +kernel, by decide, by decide, by decide, fun A5 v2 t5 hv2 _ => ?_⟩
      rw [know2] at hv2
      obtain rfl : v2 = .non := hv2
      refine ⟨(by show 2 ≤ sizeLine; decide), fun L3 nL3 => ?_⟩
      generalize e0 : upd _ L3 _ = A6
      obtain ⟨t6, hL3⟩ := newH nL3 e0
      refine ⟨(by show 2 ≤ sizeLine; decide), fun w1 nw1 => ?_⟩
      generalize e0 : upd _ w1 _ = A7
      obtain ⟨t7, hw1⟩ := newH nw1 e0
      refine ⟨(by show 1 ≤ sizeLine; decide), fun w2 nw2 => ?_⟩
      generalize e0 : upd _ w2 _ = A8
      obtain ⟨t8, hw2⟩ := newH nw2 e0
      refine ⟨(by show 2 ≤ sizeLine; decide), fun w3 nw3 => ?_⟩
      generalize e0 : upd _ w3 _ = A9
      obtain ⟨t9, hw3⟩ := newH nw3 e0
      refine ⟨(by show 2 ≤ sizeLine; decide), fun w4 nw4 => ?_⟩
      generalize e0 : upd _ w4 _ = AA
      obtain ⟨tA, hw4⟩ := newH nw4 e0
      have t6A := t7.trans (t8.trans (t9.trans tA))
      have t3A := t4.trans (t5.trans (t6.trans t6A))
      have dl : Dt AA (.ref L3) (.list [.tuple [.int 17, .list [cutD (5, some 0)]], .none]) := by
        refine .lst (t6A _ _ hL3) (.cons (.tup (t3A _ _ hq1) ?_) (.cons .non .nil))
        refine .cons (.int _) (.cons (.lst ((t3.trans t3A) _ _ hc1) ?_) .nil)
        exact cuts_dt [(5, some 0)] ys1 hy1 fun i c x h1 h2 => by
          obtain ⟨t, e, ht⟩ := hy2 i c x h1 h2
          exact ⟨t, e, (t3.trans t3A) _ _ ht⟩
      have dr : Dt AA (.ref w4) (.list [.tuple [.int 17, .list [cutD (5, some 0)]], .none]) := by
        refine .lst hw4 (.cons (.tup (tA _ _ hw3) (.cons (.int _) (.cons (.lst ((t9.trans tA) _ _ hw2) (.cons (.tup ((t8.trans (t9.trans tA)) _ _ hw1) (.cons (.int _) (.cons (.int _) .nil))) .nil)) .nil))) (.cons .non .nil))
      refine d_ne dl dr (by decide +kernel) (by decide +kernel) ⟨_, rfl, ?_⟩
      rw [show PyData.eqv (.list [.tuple [.int 17, .list [cutD (5, some 0)]], .none]) (.list [.tuple [.int 17, .list [cutD (5, some 0)]], .none]) = true by decide +kernel]
      exact iteF (hnx _ _ rfl)
    rintro _ HH rfl
    refine ⟨(by show 6 ≤ sizeLine; decide), fun L1 nL1 => ?_⟩
    generalize e0 : upd _ L1 _ = A1
    obtain ⟨t1, hL1⟩ := newH nL1 e0
    refine ⟨L1, [0, 0, 0, 7, 7, 7], 2, 1, none, rfl, ⟨.inl hL1, fold7 (by decide), by decide⟩, by decide +kernel, by decide, by decide, by decide, fun A2 v1 t2 hv1 _ => ?_⟩
    obtain ⟨cs1, ps1, e1⟩ : ∃ cs1 ps1, toldP none 2 1 [0, 0, 0, 7, 7, 7] = some (17, cs1, ps1) := by
      have k := know3
      cases e : toldP none 2 1 [0, 0, 0, 7, 7, 7] with
      | none => rw [e] at k; cases k
      | some y =>
        obtain ⟨y1, y2, y3⟩ := y
        rw [e] at k
        cases k
        exact ⟨y2, y3, rfl⟩
    rw [e1] at hv1
    obtain ⟨u1, c1, p1, rfl, hu1, _⟩ := hv1
    refine ⟨u1, _, _, _, rfl, rfl, .inl (.inl hu1), atI_nat (j := 0) rfl, rfl, _, rfl, ?_⟩
    rw [decide_eq_true rfl]
    refine iteT ?_
    refine ⟨(by show 0 ≤ sizeLine; decide), fun L2 nL2 => ?_⟩
    generalize e0 : upd _ L2 _ = A3
    obtain ⟨t3, hL2⟩ := newH nL2 e0
    refine ⟨L2, [], 3, 5, none, rfl, ⟨.inl hL2, (fun x h => nomatch h), by decide⟩, by decide +kernel, by decide, by decide, by decide, fun A4 v2 t4 hv2 _ => ?_⟩
    obtain ⟨ps2, e2⟩ : ∃ ps2, toldP none 3 5 [] = some (0, [], ps2) := by
      have k := know4
      cases e : toldP none 3 5 [] with
      | none => rw [e] at k; cases k
      | some y =>
        obtain ⟨y1, y2, y3⟩ := y
        rw [e] at k
        cases k
        exact ⟨y3, rfl⟩
    rw [e2] at hv2
    obtain ⟨u2, c2, p2, rfl, hu2, ⟨ys2, hc2, hy2, _⟩, _⟩ := hv2
    obtain rfl : ys2 = [] := List.eq_nil_of_length_eq_zero hy2
    refine ⟨_, rfl, u2, _, rfl, .inl (.inl hu2), (by show ¬ (0 = 0 ∧ 2 = 3); decide), fun q1 nq1 => ?_⟩
    generalize e0 : upd _ q1 _ = A5
    obtain ⟨t5, hq1⟩ := newH nq1 e0
    refine ⟨(by show 0 ≤ sizeLine; decide), fun w1 nw1 => ?_⟩
    generalize e0 : upd _ w1 _ = A6
    obtain ⟨t6, hw1⟩ := newH nw1 e0
    refine ⟨(by show 2 ≤ sizeLine; decide), fun w2 nw2 => ?_⟩
    generalize e0 : upd _ w2 _ = A7
    obtain ⟨t7, hw2⟩ := newH nw2 e0
    have dl : Dt A7 (.ref q1) (.tuple [.int 0, .list []]) := .tup ((t6.trans t7) _ _ hq1) (.cons (.int _) (.cons (.lst ((t5.trans (t6.trans t7)) _ _ hc2) .nil) .nil))
    have dr : Dt A7 (.ref w2) (.tuple [.int 0, .list []]) := .tup hw2 (.cons (.int _) (.cons (.lst (t7 _ _ hw1) .nil) .nil))
    refine d_eq dl dr (by decide +kernel) (by decide +kernel) ?_
    rw [show PyData.eqv (.tuple [.int 0, .list []]) (.tuple [.int 0, .list []]) = true by decide +kernel]
    exact q _
end
end My

open PySem PySem.W PySem.Calls PyProof.Rows
set_option maxRecDepth 100000 in
set_option maxHeartbeats 0 in
theorem PySem.Challenge.cw_wholesound_k46_whole_least_cuts_holds : PySem.Challenge.rw_wholesound_k46_whole_least_cuts.Holds := by
  w_on; o_law
  refine HandSHeadRun.head_any (r := OpenLaw.row PySem.Challenge.rw_wholesound_k46_whole_least_cuts) (q := view (OpenLaw.row PySem.Challenge.rw_wholesound_k46_whole_least_cuts).prog [43]) (H := My.hk) (ob := My.ob) (M := 8000) (loose := My.loose) (d := HandSHeadRun.topDef (OpenLaw.row PySem.Challenge.rw_wholesound_k46_whole_least_cuts).prog 43) (kwd := []) My.ob_eq
    (by kernel_rfl) (fun s => by kernel_rfl) My.run (by kernel_rfl) (by kernel_rfl) (by kernel_rfl) (by rfl) (by first | assumption | decide +kernel) (by decide +kernel) ⟨rfl, rfl, rfl, rfl, rfl, by decide +kernel⟩ ?hw ?hc
  case hw => w_witness2
  case hc =>
    refine My.end_g (l := PySem.Challenge.rw_wholesound_k46_whole_least_cuts) (n := 63) (k := 17) (x := "_law_script") rfl (by decide) (by kernel_rfl) ⟨rfl, by decide, by decide⟩ ?F
    intro w mg fa h Y G hmg0
    obtain ⟨K, KX, c⟩ := Y
    have hmg : mg ("law" : PySem.Str) = some (.ref fa) := by
      have e : (HandSHeadRun.topDef (OpenLaw.row PySem.Challenge.rw_wholesound_k46_whole_least_cuts).prog 43).name = ("law" : PySem.Str) := by kernel_rfl
      rw [← e]
      exact hmg0
    have T : My.Top K mg := My.top_mk KX G c
    have e := hmg.symm.trans T.g_law
    cases e
    have b := L2.FunD.bindsA (ps := ["_law_script"]) T.F_law fun _ _ _ _ _ _ us hl => match us, hl with | [_], _ => rfl
    exact ⟨K, T.fd_law, My.sp_law K, KX, fun s v => b s [v] rfl, fun H a ns hl hS => ⟨a, ns, rfl, hS, hl, fun _ => rfl⟩, fun base _ _ => My.G_law T⟩


